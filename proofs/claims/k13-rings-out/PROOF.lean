import PyProof.Rows.All
import Wide.All
import OpenK.AllK
import Wide.FinOn
import HandS.ForMost
import HandS.ForExc
import HandS.Defaults
import HandS.Walk
import HandS.IsInst
import HandS.SortInts
import HandS.TupAny
import HandS.Style
import HandS.Wide
import HandS.Iter
import HandS.Strs
import HandS.SetFor
import KE.GoesEnum
import HandS.SortOrd
import HandS.TupSets
import HandS.SetKeys
import HandS.Head0
import HandS.Head1
import HandS.Head2
import HandS.HeadEnd
import HandS.HeadHook1
import HandS.HeadHook2
import HandS.DictComp
import HandS.Zip
import HandS.Conv
import HandS.ListItems
import KE.KDictList
import HandS.Property
import HandS.HeadNt
import PySem.Challenge.RW_sloweralone_k13_rings_out
set_option Elab.async false
set_option linter.all false
set_option maxRecDepth 100000
set_option maxHeartbeats 2000000
/-! SG: defs that are called where no repr is under way. -/
namespace SL
open PySem PySem.Spec PyProof.Rows L2
structure FnG (Pr : Program) (w : World) (K : PySem.W.Frag) (mg : Str → Option Value) (base : Heap) (cx : CXT) (k : Nat) (f : Addr) (fd : FuncData) (ps : List Str) (sp : Sp) : Prop where
  len : ∀ vs H Q E, sp vs H Q E → vs.length = ps.length
  run : ∀ (A : Around) (outer : List Env) (s : Shared) (H : Hp) (args : Args) (us : List Value) (vs : List V) (Q : VK) (E : XK), Room k A → A.guards = some [] → Env0 Pr w K mg base A outer s H → BindsTo s fd args (ps.zip us) → Vals vs us →
    sp vs H Q E → codeAny (model Pr w) A (.call (.ref f) args) (CR cx outer Pr w H s Q E) s
section
variable {Pr : Program} {w : World} {K : PySem.W.Frag} {mg : Str → Option Value} {base : Heap} {cx : CXT} {k j : Nat} {f : Addr} {fd : FuncData} {ps N : List Str} {sp : Sp}
theorem FnG.of (F : FnOk Pr w K mg base cx k f fd ps sp) : FnG Pr w K mg base cx k f fd ps sp := ⟨F.len, fun A o s H as us vs Q E r _ e b v h => F.run A o s H as us vs Q E r e b v h⟩
/-- by its body -/
theorem fng_of {name qual : Str} {params : Arguments} {body : List Stmt} {scope : Scope} {dV kV doc pm cdv ct oc : Value} {an od : Option Addr} {osl : Array (Option Value)}
    (lk : K.lookup f = some ⟨oc, od, .func (PySem.W.fnOf name qual params body scope dV kV doc pm an cdv ct), osl⟩) (hcd : PySem.W.codeIn K cdv qual = true) (S : FnScope N ps scope) (len : ∀ vs H Q E, sp vs H Q E → vs.length = ps.length)
    (hb : ∀ (A : Around) (o : List Env) (s : Shared) (H : Hp) (vs : List V) (Q : VK) (E : XK), A.guards = some [] → Room k (A.deeper (envOfC qual scope s.heap.objs.size f cdv)) → sp vs H Q E →
      ∃ t, PSs (cxOf cx Pr w K mg base N qual scope f cdv A o s H E) body t ∧ t { nx := fun _ H2 => Q .non H2, rt := Q } (L2.start N vs) H) :
    FnG Pr w K mg base cx (k + 1) f (PySem.W.fnOf name qual params body scope dV kV doc pm an cdv ct) ps sp := ⟨len, fun A o s H as us vs Q E hr hg e0 hbi rv hs => by
  have KX : K.In s.heap := e0.mod.kin.keeps fun c u e => (e0.bs c u e).1
  have lim : s.heap.NoLimit := e0.mod.nolimit.keeps fun c u e => (e0.bs c u e).1
  refine codeAny_call_function hr.depth (KX _ _ lk) rfl S.co S.gen rfl (PySem.W.codeRec_of KX hcd) (hbi _ _ _ _ ?_)
  refine wpAny_newFunctionEnv_cells S.kind (fun ⟨n, u⟩ hy => (S.par n (List.of_mem_zip hy).1).imp id fun q => ⟨q, PySem.W.cellsFrom_some _ _ _ (.inl q)⟩) fun env he s1 x => ?_
  subst he
  obtain ⟨t, ht, hq⟩ := hb A o s H vs Q E hg (hr.deeper _) hs
  refine ⟨lim.keeps x.toInCall.keep, codeAny_func (wpAny_mono (ht.run [] s1 (L2.start N vs) H _ (inv_start S hr.hd e0 (len _ _ _ _ hs) rv x) hq) (fun fl s2 z => ?_) fun _ _ z => z)⟩
  cases fl with
  | ret u =>
    obtain ⟨v, _, H2, J, r, q⟩ := z
    exact ⟨v, H2, J.os, J.bare, J.base, J.hok, r, q⟩
  | next =>
    obtain ⟨_, H2, J, q⟩ := z
    exact ⟨.non, H2, J.os, J.bare, J.base, J.hok, rfl, q⟩
  | brk => exact z.elim fun _ z => z.elim fun _ z => z.2.elim
  | cont => exact z.elim fun _ z => z.elim fun _ z => z.2.elim⟩
end
section
variable {K : PySem.W.Frag} {x qual : Str} {params : Arguments} {body : List Stmt} {scope : Scope} {dvs : List V} {kws : List (Str × V)} {f : Addr} {fd : FuncData} {Pr : Program} {w : World} {mg : Str → Option Value} {base : Heap} {cx : CXT} {N ps : List Str} {k : Nat} {sp : Sp}
theorem okG (F : FunD K x qual params body scope dvs kws f fd) (S : FnScope N ps scope) (len : ∀ vs H Q E, sp vs H Q E → vs.length = ps.length)
    (hb : ∀ (cdv : Value) (A : Around) (o : List Env) (s : Shared) (H : Hp) (vs : List V) (Q : VK) (E : XK), A.guards = some [] → Room k (A.deeper (envOfC qual scope s.heap.objs.size f cdv)) → sp vs H Q E →
      ∃ t, PSs (cxOf cx Pr w K mg base N qual scope f cdv A o s H E) body t ∧ t { nx := fun _ H2 => Q .non H2, rt := Q } (L2.start N vs) H) : FnG Pr w K mg base cx (k + 1) f fd ps sp := by
  obtain ⟨oc, od, dV, kV, doc, pm, an, cdv, ct, osl, rfl, lk, hcd, _, _⟩ := F.ex
  exact fng_of lk hcd S len fun A o s H vs Q E g r h => hb cdv A o s H vs Q E g r h
end
/-! ### calls -/
section
variable {X : Cx} {cx : CXT} {k : Nat} {f C : Addr} {fd : FuncData} {ps : List Str} {sp : Sp} {dvs : List V} {ds : List Value} {E : XK} {x m : Str} {p pos apos : Pos} {e o : Expr} {es : List Expr} {ta : TE} {t : TA}
theorem runG {pins : List (Addr × Obj)} {σ : L2.St} {H : Hp} {s : Shared} {Q : VK} {us : List Value} {vs : List V} (F : FnG X.prog X.w X.K X.mg X.base cx k f fd ps sp) (gd : X.A.guards = some []) (hr : Room k X.A) (hb : Binds X.K fd ps ds) (hd : Vals dvs ds) (hx : Passes cx X E)
    (I : Inv X pins σ H s) (r : Vals vs us) (h : sp (vs ++ dvs) H Q E) : wpAny (model X.prog X.w) X.A (call (.ref f) us) (EP X pins σ Q) X.xe s := by
  have r2 := r.append hd
  have l2 : (us ++ ds).length = ps.length := r2.length.symm.trans (F.len _ _ _ _ h)
  refine wpAny_call (codeAny_mono (F.run X.A X.stack s H ⟨us, []⟩ _ _ Q E hr gd I.env0 (hb s us I.kIn l2) r2 h) fun fin s2 z => ?_)
  match fin, z with
  | .error u, z => exact hx pins σ H s u s2 I z
  | .ok (.ret _), z => exact I.after z
theorem pe_callG (F : FnG X.prog X.w X.K X.mg X.base cx k f fd ps sp) (gd : X.A.guards = some []) (hr : Room k X.A) (hg : Gl X x) (hm : X.mg x = some (.ref f)) (hk : PySem.W.keepIn X.K (.ref f) = true) (hb : Binds X.K fd ps ds) (hd : Vals dvs ds) (hx : Passes cx X E)
    (ha : PA X (e :: es) t) (hdb : (x == ("__debug__" : Str)) = false := by decide) (he : starEach (e :: es) X.env = (false, eval e X.env) :: starEach es X.env := by rfl) (hpl : (backTo pos (starEach es X.env)).any (·.1) = false := by rfl) :
    PE X (.Call (.Name x p) (e :: es) [] pos) (tCall sp dvs E t) := ⟨fun pins s σ H Q I h =>
  wpAny_Call_Name_kw (ld_glob I hg hm (PySem.W.callWith_K (h₀ := X.base) I.ok.mod.kin hk (thn (ha.run pos pins s σ H _ I h) fun _ _ ⟨_, _, I1, r, q⟩ => ⟨I1.kIn, runG F gd hr hb hd hx I1 r q⟩) he hpl) hdb)⟩
theorem pe_call0G (F : FnG X.prog X.w X.K X.mg X.base cx k f fd ps sp) (gd : X.A.guards = some []) (hr : Room k X.A) (hg : Gl X x) (hm : X.mg x = some (.ref f)) (hk : PySem.W.keepIn X.K (.ref f) = true) (hb : Binds X.K fd ps ds) (hd : Vals dvs ds) (hx : Passes cx X E)
    (hdb : (x == ("__debug__" : Str)) = false := by decide) : PE X (.Call (.Name x p) [] [] pos) (tCall sp dvs E tNil) := ⟨fun pins s σ H Q I h =>
  wpAny_Call_Name_kw (ld_glob I hg hm (PySem.W.callWith_K0 I.kIn hk (runG (us := []) F gd hr hb hd hx I .nil h)) hdb)⟩
end
/-! ### the law -/
theorem lawG {Pr : Program} {w : World} {K : PySem.W.Frag} {mg mb : Str → Option Value} {cx : CXT} {k : Nat} {fa a : Addr} {fd : FuncData} {x : Str} {sp : Sp} {s : Shared} {vs : List Value} {ns : List Int}
    (KX : K.In s.heap) (hns : s.heap.Ns mainGlobals mg) (hb : s.heap.Ns builtinsNs mb) (hbb : ∀ x : Str, x ≠ "__name__" → mb x = bootBuiltins x) (hlim : s.heap.NoLimit) (hg : s.gens = #[])
    (ha : s.heap.get? a = some { cls := .type "list", data := .seq vs.toArray }) (hi : IntsAre vs ns) (hl : ns.length ≤ sizeLine) (hr : Room k callerA)
    (F : ∀ base : Heap, K.In base → base.Ns mainGlobals mg → FnG Pr w K mg base cx k fa fd [x] sp) (hbind : ∀ (s : Shared) (u : Value), BindsTo s fd ⟨[u], []⟩ [(x, u)])
    (hsp : ∀ H : Hp, Only H → SqL K H a (ns.map V.int) → sp [.ref a] H (fun v _ => v = .bl true) fun _ _ _ => False) (hcx : ∀ H e s2, cx [] H s (fun _ _ _ => False) e s2 → False) :
    codeAny (model Pr w) callerA (.call (.ref fa) ⟨[.ref a], []⟩) (fun r s2 => r = .ok (.ret (.bool true)) ∧ OldK s.heap s2.heap ∧ s2.os = s.os ∧ AllBare s2.gens) s := by
  have go : ∀ H : Hp, Only H → SqL K H a (ns.map V.int) → HOk Pr w H s.heap → (∀ b, H b ≠ none → b = a) → (H a ≠ none → K.lookup a = none) →
      codeAny (model Pr w) callerA (.call (.ref fa) ⟨[.ref a], []⟩) (fun r s2 => r = .ok (.ret (.bool true)) ∧ OldK s.heap s2.heap ∧ s2.os = s.os ∧ AllBare s2.gens) s := fun H hO hS hok hA hK => by
    have out : ∀ b o, s.heap.get? b = some o → (b = a → o.data ≠ .seq vs.toArray) → H b = none := fun b o e n => by
      cases q : H b with
      | none => rfl
      | some u =>
        have e2 : b = a := hA b (by rw [q]; exact fun z => nomatch z)
        have e3 := e
        rw [e2, ha] at e3
        cases e3
        exact absurd rfl (n e2)
    have nsK : ∀ {b : Addr} {m : Str → Option Value}, s.heap.Ns b m → (hidT s.heap H).Ns b m := fun {b m} ⟨o, es, ep, e, d, r⟩ => ⟨o, es, ep, hidT_get e (out b o e fun _ z => by rw [d] at z; cases z), d, r⟩
    have hKb : K.In (hidT s.heap H) := fun b o e => hidT_get (KX b o e) (by
      cases q : H b with
      | none => rfl
      | some u =>
        have e2 : b = a := hA b (by rw [q]; exact fun z => nomatch z)
        rw [e2] at e q
        rw [hK (by rw [q]; exact fun z => nomatch z)] at e
        cases e)
    have hM : Mod K mg (hidT s.heap H) := ⟨hKb, nsK hns, ⟨mb, nsK hb, hbb⟩, hlim.elim fun mc z => ⟨mc, nsK z.1, z.2⟩⟩
    have e0 : Env0 Pr w K mg (hidT s.heap H) callerA [] s H := ⟨rfl, hM, fun b o e => of_hidT e, Nat.le_of_eq (hidT_size _ _), trivial, fun b z => absurd (show b ∈ ([] : List Addr) from z) (List.not_mem_nil), hok, .of_eq hg⟩
    refine codeAny_mono ((F _ hKb (nsK hns)).run callerA [] s H ⟨[.ref a], []⟩ [.ref a] [.ref a] _ _ hr rfl e0 (hbind s (.ref a)) (.cons rfl .nil) (hsp H hO hS)) fun fin s2 h => ?_
    match fin, h with
    | .error e, h => exact (hcx H e s2 h).elim
    | .ok (.ret u), h =>
      obtain ⟨v, H2, os, bare, un, hok2, r, q⟩ := h
      subst q
      cases r
      refine ⟨rfl, OldK.of_keep fun b o e => ?_, os, bare⟩
      rcases hO b with z | ⟨ob, xs, z⟩
      · exact un.keep b o e z (fun y => absurd (show b ∈ ([] : List Addr) from y) List.not_mem_nil) List.not_mem_nil
      · have e1 := (hok b _ z).1
        rw [e] at e1
        cases e1
        exact (hok2 b _ (un.frzs b _ _ z)).1
  cases hk : K.lookup a with
  | some o =>
    have e := KX a o hk
    rw [ha] at e
    cases e
    exact go (fun _ => none) (fun _ => .inl rfl) (.inr ⟨_, vs.toArray, _, hk, rfl, rfl, rfl, by rw [List.size_toArray, hi.length]; exact hl, by simpa using vals_ints hi⟩) (fun b u z => nomatch z) (fun b z => absurd rfl z) fun z => absurd rfl z
  | none =>
    have at_ : ∀ b u, (if b = a then some (HO.frz { cls := .type "list", data := .seq vs.toArray } (.lst (ns.map V.int))) else none) = some u → b = a ∧ u = .frz { cls := .type "list", data := .seq vs.toArray } (.lst (ns.map V.int)) := fun b u z => by
      by_cases c : b = a
      · rw [if_pos c] at z
        exact ⟨c, (Option.some.inj z).symm⟩
      · rw [if_neg c] at z
        cases z
    refine go (fun b => if b = a then some (.frz { cls := .type "list", data := .seq vs.toArray } (.lst (ns.map V.int))) else none) (fun b => ?_) (.inl (.inr ⟨_, if_pos rfl⟩)) (fun b u z => ?_) (fun b z => ?_) fun _ => hk
    · by_cases c : b = a
      · exact .inr ⟨_, _, if_pos c⟩
      · exact .inl (if_neg c)
    · obtain ⟨rfl, rfl⟩ := at_ b u z
      exact ⟨ha, by rw [List.length_map]; exact hl, vs, _, vals_ints hi, ha⟩
    · cases q : (if b = a then some (HO.frz { cls := .type "list", data := .seq vs.toArray } (.lst (ns.map V.int))) else none) with
      | none => exact absurd q z
      | some u => exact (at_ b u q).1
end SL

set_option Elab.async false
set_option linter.all false
set_option maxRecDepth 100000
set_option maxHeartbeats 2000000
/-! SLa: the typed layer, its core: outcomes, types of data, the state by slots, the judgements. -/
namespace SL
open PySem PySem.Spec PyProof.Rows L2

/-! ### errors, outcomes -/
structure Err where
  cls : Str
  fs : List (Str × PyData)
inductive Out (α : Type) where
  | ok (a : α) | err (x : Err) | stuck
def Out.bind {α β : Type} (m : Out α) (f : α → Out β) : Out β := match m with
  | .ok a => f a
  | .err x => .err x
  | .stuck => .stuck
instance : Monad Out where
  pure a := .ok a
  bind := Out.bind
theorem bind_ok {α β : Type} (a : α) (f : α → Out β) : (Out.ok a >>= f) = f a := rfl
theorem pure_b {α β : Type} (a : α) (f : α → Out β) : ((pure a : Out α) >>= f) = f a := rfl
theorem bind_stuck {α β : Type} (f : α → Out β) : ((Out.stuck : Out α) >>= f) = .stuck := rfl
theorem bind_err {α β : Type} (x : Err) (f : α → Out β) : ((Out.err x : Out α) >>= f) = .err x := rfl
theorem pure_ok {α : Type} (a : α) : (pure a : Out α) = .ok a := rfl
theorem bind_as {α β γ : Type} (m : Out α) (f : α → Out β) (g : β → Out γ) : ((m >>= f) >>= g) = (m >>= fun a => f a >>= g) := by cases m <;> rfl
/-- what is wanted of an outcome -/
def Post {α : Type} (m : Out α) (P : α → Prop) (R : Err → Prop) : Prop := match m with
  | .ok a => P a
  | .err x => R x
  | .stuck => False
theorem Post.bind {α β : Type} {m : Out α} {f : α → Out β} {P : β → Prop} {R : Err → Prop} (h : Post (m >>= f) P R) : Post m (fun a => Post (f a) P R) R := by
  cases m with
  | ok a => exact h
  | err x => exact h
  | stuck => exact h
theorem Post.mono {α : Type} {m : Out α} {P P' : α → Prop} {R R' : Err → Prop} (h : Post m P R) (hp : ∀ a, P a → P' a) (hr : ∀ x, R x → R' x) : Post m P' R' := by
  cases m with
  | ok a => exact hp a h
  | err x => exact hr x h
  | stuck => exact h
theorem Post.imp {α : Type} {m : Out α} {P P' : α → Prop} {R : Err → Prop} (h : Post m P R) (hp : ∀ a, P a → P' a) : Post m P' R := h.mono hp fun _ q => q

/-! ### steps of the two heaps: F what is fixed for good, H all that is tracked -/
structure Stp (F H F' H' : Hp) : Prop where
  ff : Same F F'
  fh : Same F' H'
  hh : Same H H'
  old : ∀ a, F a = none → H a ≠ none → F' a = none
theorem Stp.refl {F H : Hp} (h : Same F H) : Stp F H F H := ⟨.refl _, h, .refl _, fun _ e _ => e⟩
theorem same_ne {H H' : Hp} (s : Same H H') {a : Addr} (h : H a ≠ none) : H' a ≠ none := by
  cases e : H a with
  | none => exact absurd e h
  | some o =>
    rw [s a o e]
    exact fun z => nomatch z
theorem Stp.trans {F H F1 H1 F2 H2 : Hp} (a : Stp F H F1 H1) (b : Stp F1 H1 F2 H2) : Stp F H F2 H2 :=
  ⟨a.ff.trans b.ff, b.fh, a.hh.trans b.hh, fun c e n => b.old c (a.old c e n) (same_ne a.hh n)⟩
/-- .. where the addresses of W may have been written -/
structure SW (W : Addr → Prop) (F H F' H' : Hp) : Prop where
  ff : Same F F'
  fh : Same F' H'
  hh : ∀ a o, H a = some o → ¬ W a → H' a = some o
  there : ∀ a, H a ≠ none → H' a ≠ none
  old : ∀ a, F a = none → H a ≠ none → F' a = none
theorem SW.refl {W : Addr → Prop} {F H : Hp} (h : Same F H) : SW W F H F H := ⟨.refl _, h, fun _ _ e _ => e, fun _ e => e, fun _ e _ => e⟩
theorem SW.stp {W : Addr → Prop} {F H F1 H1 F2 H2 : Hp} (a : SW W F H F1 H1) (b : Stp F1 H1 F2 H2) : SW W F H F2 H2 :=
  ⟨a.ff.trans b.ff, b.fh, fun c o e n => b.hh c o (a.hh c o e n), fun c n => same_ne b.hh (a.there c n), fun c e n => b.old c (a.old c e n) (a.there c n)⟩
theorem Stp.sw {W : Addr → Prop} {F H F' H' : Hp} (a : Stp F H F' H') : SW W F H F' H' := ⟨a.ff, a.fh, fun c o e _ => a.hh c o e, fun _ n => same_ne a.hh n, a.old⟩
theorem SW.pure {F H F' H' : Hp} (a : SW (fun _ => False) F H F' H') : Stp F H F' H' := ⟨a.ff, a.fh, fun c o e => a.hh c o e id, a.old⟩
/-- a new object, fixed at once -/
theorem Stp.new {F H : Hp} {p : Addr} {o : HO} (s : Same F H) (n : H p = none) : Stp F H (upd F p o) (upd H p o) := by
  have nf : F p = none := s.free n
  refine ⟨fun a u e => ?_, fun a u e => ?_, fun a u e => ?_, fun a e m => ?_⟩
  · rw [upd_ne (ne_of_none e nf)]
    exact e
  · by_cases h : a = p
    · subst h
      rw [upd_same] at e ⊢
      exact e
    · rw [upd_ne h] at e ⊢
      exact s a u e
  · rw [upd_ne (ne_of_none e n)]
    exact e
  · have h : a ≠ p := fun z => by
      rw [z] at m
      exact m n
    rw [upd_ne h]
    exact e
/-- a new object, not fixed -/
theorem Stp.newH {F H : Hp} {p : Addr} {o : HO} (s : Same F H) (n : H p = none) : Stp F H F (upd H p o) := by
  refine ⟨.refl _, fun a u e => ?_, fun a u e => ?_, fun _ e _ => e⟩
  · rw [upd_ne (ne_of_none (s a u e) n)]
    exact s a u e
  · rw [upd_ne (ne_of_none e n)]
    exact e
theorem seqT {K : PySem.W.Frag} {H H' : Hp} {a : Addr} {xs : List V} (e : Same H H') (h : SqT K H a xs) : SqT K H' a xs := by
  rcases h with (h | ⟨o, h⟩) | h
  · exact .inl (.inl (e _ _ h))
  · exact .inl (.inr ⟨o, e _ _ h⟩)
  · exact .inr h

/-! ### relations of values and data -/
/-- by both heaps -/
structure Rl (α : Type) where
  rel : PySem.W.Frag → Hp → Hp → V → α → Prop
  mono : ∀ {K : PySem.W.Frag} {F H F' H' : Hp} {v : V} {a : α}, Stp F H F' H' → rel K F H v a → rel K F' H' v a
/-- by what is fixed alone -/
structure Ty (α : Type) where
  rel : PySem.W.Frag → Hp → V → α → Prop
  mono : ∀ {K : PySem.W.Frag} {F F' : Hp} {v : V} {a : α}, Same F F' → rel K F v a → rel K F' v a
def Ty.rl {α : Type} (T : Ty α) : Rl α := ⟨fun K F _ v a => T.rel K F v a, fun s h => T.mono s.ff h⟩
/-- pointwise -/
inductive Fa2 {α : Type} (R : V → α → Prop) : List V → List α → Prop where
  | nil : Fa2 R [] []
  | cons {v : V} {a : α} {vs : List V} {as : List α} : R v a → Fa2 R vs as → Fa2 R (v :: vs) (a :: as)
theorem Fa2.imp {α : Type} {R R' : V → α → Prop} {vs : List V} {as : List α} (h : Fa2 R vs as) (f : ∀ v a, R v a → R' v a) : Fa2 R' vs as := by
  induction h with
  | nil => exact .nil
  | cons r _ ih => exact .cons (f _ _ r) ih
theorem Fa2.len {α : Type} {R : V → α → Prop} {vs : List V} {as : List α} (h : Fa2 R vs as) : vs.length = as.length := by
  induction h with
  | nil => rfl
  | cons _ _ ih => rw [List.length_cons, List.length_cons, ih]
theorem Fa2.get {α : Type} {R : V → α → Prop} {vs : List V} {as : List α} (h : Fa2 R vs as) : ∀ {i : Nat} {a : α}, as[i]? = some a → ∃ v, vs[i]? = some v ∧ R v a := by
  induction h with
  | nil => intro i a e; simp at e
  | cons r _ ih =>
    intro i a e
    cases i with
    | zero => simp at e; subst e; exact ⟨_, rfl, r⟩
    | succ i => simpa using ih (by simpa using e)
theorem Fa2.getV {α : Type} {R : V → α → Prop} {vs : List V} {as : List α} (h : Fa2 R vs as) : ∀ {i : Nat} {v : V}, vs[i]? = some v → ∃ a, as[i]? = some a ∧ R v a := by
  induction h with
  | nil => intro i a e; simp at e
  | cons r _ ih =>
    intro i a e
    cases i with
    | zero => simp at e; subst e; exact ⟨_, rfl, r⟩
    | succ i => simpa using ih (by simpa using e)
theorem Fa2.app {α : Type} {R : V → α → Prop} {vs ws : List V} {as bs : List α} (h : Fa2 R vs as) (g : Fa2 R ws bs) : Fa2 R (vs ++ ws) (as ++ bs) := by
  induction h with
  | nil => exact g
  | cons r _ ih => exact .cons r ih
theorem Fa2.take {α : Type} {R : V → α → Prop} {vs : List V} {as : List α} (h : Fa2 R vs as) : ∀ n : Nat, Fa2 R (vs.take n) (as.take n) := by
  induction h with
  | nil => intro n; simpa using Fa2.nil
  | cons r _ ih =>
    intro n
    cases n with
    | zero => exact .nil
    | succ n => exact .cons r (ih n)
theorem Fa2.drop {α : Type} {R : V → α → Prop} {vs : List V} {as : List α} (h : Fa2 R vs as) : ∀ n : Nat, Fa2 R (vs.drop n) (as.drop n) := by
  induction h with
  | nil => intro n; simpa using Fa2.nil
  | cons r t ih =>
    intro n
    cases n with
    | zero => exact .cons r t
    | succ n => exact ih n
theorem Fa2.set {α : Type} {R : V → α → Prop} {vs : List V} {as : List α} (h : Fa2 R vs as) {v : V} {a : α} (r : R v a) : ∀ n : Nat, Fa2 R (vs.set n v) (as.set n a) := by
  induction h with
  | nil => intro n; simpa using Fa2.nil
  | cons q t ih =>
    intro n
    cases n with
    | zero => exact .cons r t
    | succ n => exact .cons q (ih n)
theorem Fa2.rep {α : Type} {R : V → α → Prop} {v : V} {a : α} (r : R v a) : ∀ n : Nat, Fa2 R (List.replicate n v) (List.replicate n a)
  | 0 => .nil
  | n + 1 => .cons r (Fa2.rep r n)
theorem Fa2.rev {α : Type} {R : V → α → Prop} {vs : List V} {as : List α} (h : Fa2 R vs as) : Fa2 R vs.reverse as.reverse := by
  induction h with
  | nil => exact .nil
  | cons r _ ih => simpa using ih.app (.cons r .nil)
theorem Fa2.erase {α : Type} {R : V → α → Prop} {vs : List V} {as : List α} (h : Fa2 R vs as) : ∀ n : Nat, Fa2 R (vs.eraseIdx n) (as.eraseIdx n) := by
  induction h with
  | nil => intro n; simpa using Fa2.nil
  | cons q t ih =>
    intro n
    cases n with
    | zero => exact t
    | succ n => exact .cons q (ih n)
theorem Fa2.map {α β : Type} {R : V → α → Prop} {R' : V → β → Prop} {vs : List V} {as : List α} (h : Fa2 R vs as) (f : α → β) (g : ∀ v a, R v a → R' v (f a)) : Fa2 R' vs (as.map f) := by
  induction h with
  | nil => exact .nil
  | cons r _ ih => exact .cons (g _ _ r) ih

/-! ### the types -/
def tInt : Ty Int := ⟨fun _ _ v a => v = .int a, fun _ h => h⟩
def tBool : Ty Bool := ⟨fun _ _ v a => v = .bl a, fun _ h => h⟩
def tStr : Ty Str := ⟨fun _ _ v a => v = .str a, fun _ h => h⟩
def tNon : Ty Unit := ⟨fun _ _ v _ => v = .non, fun _ h => h⟩
def tOpt {α : Type} (T : Ty α) : Ty (Option α) := ⟨fun K F v a => match a with
  | none => v = .non
  | some x => v ≠ .non ∧ T.rel K F v x, fun {K F F' v a} s h => by
  cases a with
  | none => exact h
  | some x => exact ⟨h.1, T.mono s h.2⟩⟩
def tLst {α : Type} (T : Ty α) : Ty (List α) := ⟨fun K F v a => ∃ p vs, v = .ref p ∧ F p = some (.lst vs) ∧ Fa2 (T.rel K F) vs a,
  fun s ⟨p, vs, e, q, r⟩ => ⟨p, vs, e, s _ _ q, r.imp fun _ _ => T.mono s⟩⟩
/-- a list that is only read (the script, a list of the module) -/
def tLstQ {α : Type} (T : Ty α) : Ty (List α) := ⟨fun K F v a => ∃ p vs, v = .ref p ∧ SqL K F p vs ∧ Fa2 (T.rel K F) vs a,
  fun s ⟨p, vs, e, q, r⟩ => ⟨p, vs, e, s.seq q, r.imp fun _ _ => T.mono s⟩⟩
def tTup {α : Type} (T : Ty α) : Ty (List α) := ⟨fun K F v a => ∃ p vs, v = .ref p ∧ SqT K F p vs ∧ Fa2 (T.rel K F) vs a,
  fun s ⟨p, vs, e, q, r⟩ => ⟨p, vs, e, seqT s q, r.imp fun _ _ => T.mono s⟩⟩
/-- tuples and lists of two, three, four things of their own types -/
def tT1 {α : Type} (T : Ty α) : Ty α := ⟨fun K F v a => ∃ p v1, v = .ref p ∧ SqT K F p [v1] ∧ T.rel K F v1 a,
  fun s ⟨p, v1, e, q, r⟩ => ⟨p, v1, e, seqT s q, T.mono s r⟩⟩
def tT2 {α β : Type} (T : Ty α) (U : Ty β) : Ty (α × β) := ⟨fun K F v a => ∃ p v1 v2, v = .ref p ∧ SqT K F p [v1, v2] ∧ T.rel K F v1 a.1 ∧ U.rel K F v2 a.2,
  fun s ⟨p, v1, v2, e, q, r, t⟩ => ⟨p, v1, v2, e, seqT s q, T.mono s r, U.mono s t⟩⟩
def tT3 {α β γ : Type} (T : Ty α) (U : Ty β) (W : Ty γ) : Ty (α × β × γ) := ⟨fun K F v a => ∃ p v1 v2 v3, v = .ref p ∧ SqT K F p [v1, v2, v3] ∧ T.rel K F v1 a.1 ∧ U.rel K F v2 a.2.1 ∧ W.rel K F v3 a.2.2,
  fun s ⟨p, v1, v2, v3, e, q, r, t, u⟩ => ⟨p, v1, v2, v3, e, seqT s q, T.mono s r, U.mono s t, W.mono s u⟩⟩
def tL2 {α β : Type} (T : Ty α) (U : Ty β) : Ty (α × β) := ⟨fun K F v a => ∃ p v1 v2, v = .ref p ∧ F p = some (.lst [v1, v2]) ∧ T.rel K F v1 a.1 ∧ U.rel K F v2 a.2,
  fun s ⟨p, v1, v2, e, q, r, t⟩ => ⟨p, v1, v2, e, s _ _ q, T.mono s r, U.mono s t⟩⟩
def tL3 {α β γ : Type} (T : Ty α) (U : Ty β) (W : Ty γ) : Ty (α × β × γ) := ⟨fun K F v a => ∃ p v1 v2 v3, v = .ref p ∧ F p = some (.lst [v1, v2, v3]) ∧ T.rel K F v1 a.1 ∧ U.rel K F v2 a.2.1 ∧ W.rel K F v3 a.2.2,
  fun s ⟨p, v1, v2, v3, e, q, r, t, u⟩ => ⟨p, v1, v2, v3, e, s _ _ q, T.mono s r, U.mono s t, W.mono s u⟩⟩
mutual
theorem dp_mono {K : PySem.W.Frag} {F F' : Hp} (s : Same F F') : ∀ {d : PyData} {v : V}, Dp K F v d → Dp K F' v d
  | .none, _, h => by cases h; exact .non
  | .bool _, _, h => by cases h; exact .bl _
  | .int _, _, h => by cases h; exact .int _
  | .str _, _, h => by cases h; exact .str _
  | .tuple _, _, h => by
    cases h with
    | tup q r => exact .tup (seqT s q) (dps_mono s r)
  | .list _, _, h => by
    cases h with
    | lst q r => exact .lst (s.seq q) (dps_mono s r)
  | .dict _, _, h => by cases h
theorem dps_mono {K : PySem.W.Frag} {F F' : Hp} (s : Same F F') : ∀ {xs : List PyData} {vs : List V}, DpAll K F vs xs → DpAll K F' vs xs
  | [], _, h => by cases h; exact .nil
  | _ :: _, _, h => by
    cases h with
    | cons h1 h2 => exact .cons (dp_mono s h1) (dps_mono s h2)
end
def tD : Ty PyData := ⟨fun K F v a => Dp K F v a, fun s h => dp_mono s h⟩
/-- a list that may be read -/
def LAt {α : Type} (T : Ty α) (K : PySem.W.Frag) (F H : Hp) (v : V) (a : List α) : Prop := ∃ p vs, v = .ref p ∧ SqL K H p vs ∧ Fa2 (T.rel K F) vs a
/-- .. the list itself is tracked -/
def rLstH {α : Type} (T : Ty α) : Rl (List α) := ⟨fun K F H v a => ∃ p vs, v = .ref p ∧ H p = some (.lst vs) ∧ Fa2 (T.rel K F) vs a, fun s ⟨p, vs, e, q, r⟩ => ⟨p, vs, e, s.hh _ _ q, r.imp fun _ _ => T.mono s.ff⟩⟩
def rLst {α : Type} (T : Ty α) : Rl (List α) := ⟨fun K F H v a => LAt T K F H v a, fun s ⟨p, vs, e, q, r⟩ => ⟨p, vs, e, s.hh.seq q, r.imp fun _ _ => T.mono s.ff⟩⟩

/-! ### owned things -/
structure Own (α : Type) where
  rel : PySem.W.Frag → Hp → Hp → (Addr → Prop) → V → α → Prop
  keep : ∀ {K : PySem.W.Frag} {F H F' H' : Hp} {S : Addr → Prop} {v : V} {a : α}, rel K F H S v a → Same F F' → (∀ p, S p → H' p = H p) → rel K F' H' S v a
/-- fixed -/
def im {α : Type} (T : Ty α) : Own α := ⟨fun K F _ _ v a => T.rel K F v a, fun h s _ => T.mono s h⟩
/-- a list of fixed things -/
def oLst {α : Type} (T : Ty α) : Own (List α) := ⟨fun K F H S v a => ∃ p vs, v = .ref p ∧ S p ∧ H p = some (.lst vs) ∧ Fa2 (T.rel K F) vs a,
  fun ⟨p, vs, e, sp, h, r⟩ s k => ⟨p, vs, e, sp, (k p sp).trans h, r.imp fun _ _ => T.mono s⟩⟩
/-- F with what S has in H -/
noncomputable def frz (F H : Hp) (S : Addr → Prop) : Hp := fun p => by
  classical
  exact if S p then H p else F p
theorem frz_in {F H : Hp} {S : Addr → Prop} {p : Addr} (h : S p) : frz F H S p = H p := by
  unfold frz
  simp [h]
theorem frz_out {F H : Hp} {S : Addr → Prop} {p : Addr} (h : ¬ S p) : frz F H S p = F p := by
  unfold frz
  simp [h]
theorem frz_same {F H : Hp} {S : Addr → Prop} (d : ∀ p, S p → F p = none) : Same F (frz F H S) := fun a o e => by
  rw [frz_out (fun h => by rw [d a h] at e; cases e)]
  exact e
theorem frz_sub {F H : Hp} {S : Addr → Prop} (s : Same F H) : Same (frz F H S) H := fun a o e => by
  by_cases h : S a
  · rw [frz_in h] at e
    exact e
  · rw [frz_out h] at e
    exact s a o e
/-- what an owned thing is when it is fixed -/
def Fz {α : Type} (O : Own α) (T : Ty α) : Prop := ∀ (K : PySem.W.Frag) (F H : Hp) (S : Addr → Prop) (v : V) (a : α), (∀ p, S p → F p = none) → O.rel K F H S v a → T.rel K (frz F H S) v a
theorem fz_lst {α : Type} (T : Ty α) : Fz (oLst T) (tLst T) := fun K F H S v a d ⟨p, vs, e, sp, h, r⟩ =>
  ⟨p, vs, e, (frz_in sp).trans h, r.imp fun _ _ => T.mono (frz_same d)⟩

/-! ### the state: the slots -/
inductive Slot where
  | any
  | on (α : Type) (O : Own α) (a : α)
def Slot.ok (K : PySem.W.Frag) (F H : Hp) (S : Addr → Prop) (o : Option V) : Slot → Prop
  | .any => True
  | .on _ O a => ∃ v, o = some v ∧ O.rel K F H S v a
abbrev iS {α : Type} (T : Ty α) (a : α) : Slot := .on α (im T) a
/-- a def's entry: the heaps, the addresses that it may write -/
structure Bs where
  F : Hp
  H : Hp
  W : Addr → Prop
abbrev Ow := Addr → Option Nat
structure EnvOk (K : PySem.W.Frag) (B : Bs) (Γ : List Slot) (σ : L2.St) (F H : Hp) (ω : Ow) : Prop where
  base : SW B.W B.F B.H F H
  len : σ.length = Γ.length
  own : ∀ a i, ω a = some i → F a = none ∧ H a ≠ none ∧ (B.H a = none ∨ B.W a)
  slot : ∀ (i : Nat) (s : Slot), Γ[i]? = some s → s.ok K F H (fun a => ω a = some i) (σ[i]?.join)
theorem Slot.keep {K : PySem.W.Frag} {F H F' H' : Hp} {S : Addr → Prop} {o : Option V} {s : Slot} (h : s.ok K F H S o) (ff : Same F F') (k : ∀ p, S p → H' p = H p) : s.ok K F' H' S o := by
  cases s with
  | any => trivial
  | on α O a =>
    obtain ⟨v, e, r⟩ := h
    exact ⟨v, e, O.keep r ff k⟩
theorem same_at {H H' : Hp} (s : Same H H') {a : Addr} (n : H a ≠ none) : H' a = H a := by
  cases e : H a with
  | none => exact absurd e n
  | some o => exact s a o e
theorem EnvOk.fh {K : PySem.W.Frag} {B : Bs} {Γ : List Slot} {σ : L2.St} {F H : Hp} {ω : Ow} (e : EnvOk K B Γ σ F H ω) : Same F H := e.base.fh
theorem EnvOk.stp {K : PySem.W.Frag} {B : Bs} {Γ : List Slot} {σ : L2.St} {F H F' H' : Hp} {ω : Ow} (e : EnvOk K B Γ σ F H ω) (s : Stp F H F' H') : EnvOk K B Γ σ F' H' ω :=
  ⟨e.base.stp s, e.len, fun a i h => let ⟨x, y, z⟩ := e.own a i h; ⟨s.old a x y, same_ne s.hh y, z⟩, fun i t h => Slot.keep (e.slot i t h) s.ff fun p hp => same_at s.hh (e.own p i hp).2.1⟩

/-! ### errors, ends -/
def ErrOk (K : PySem.W.Frag) (F : Hp) (x : Err) (cls : Value) (d : Option Addr) : Prop :=
  cls = .ref (gaN K x.cls) ∧ ∃ dd fs, d = some dd ∧ F dd = some (.xd fs) ∧ fs.map (·.1) = x.fs.map (·.1) ∧ DpAll K F (fs.map (·.2)) (x.fs.map (·.2))
  where gaN (K : PySem.W.Frag) (x : Str) : Addr := match PySem.W.nsIn K mainGlobals x with
    | some (some (.ref a)) => a
    | _ => 0
/-- what a wish about exceptions takes -/
def RB (K : PySem.W.Frag) (B : Bs) (E : XK) (x : Err) : Prop := ∀ cls d F' H', SW B.W B.F B.H F' H' → ErrOk K F' x cls d → E cls d H'
inductive SOut where
  | nx (Γ : List Slot)
  | bk (Γ : List Slot)
  | rt (α : Type) (T : Ty α) (a : α)
  | ro (α : Type) (O : Own α) (a : α)
def EndOk (K : PySem.W.Frag) (B : Bs) (F0 : Hp) (En : Ends) : SOut → Prop
  | .nx Γ => ∀ σ F H ω, Same F0 F → EnvOk K B Γ σ F H ω → En.nx σ H
  | .bk Γ => ∀ σ F H ω, Same F0 F → EnvOk K B Γ σ F H ω → En.bk σ H
  | .rt _ T a => ∀ v F H, SW B.W B.F B.H F H → T.rel K F v a → En.rt v H
  | .ro _ O a => ∀ v F H S, SW B.W B.F B.H F H → (∀ p, S p → F p = none ∧ H p ≠ none ∧ B.H p = none) → O.rel K F H S v a → En.rt v H
theorem EndOk.up {K : PySem.W.Frag} {B : Bs} {F0 F1 : Hp} {En : Ends} {o : SOut} (h : EndOk K B F0 En o) (s : Same F0 F1) : EndOk K B F1 En o := by
  cases o with
  | nx Γ => exact fun σ F H ω q e => h σ F H ω (s.trans q) e
  | bk Γ => exact fun σ F H ω q e => h σ F H ω (s.trans q) e
  | rt α T a => exact h
  | ro α O a => exact h

/-! ### the judgements -/
def sE (X : Cx) (e : Expr) : TE := fun σ H Q => ∃ t, PE X e t ∧ t σ H Q
def sT (X : Cx) (e : Expr) : TT := fun σ H Q => ∃ t, PT X e t ∧ t σ H Q
def sA (X : Cx) (es : List Expr) : TA := fun σ H Q => ∃ t, PA X es t ∧ t σ H Q
def sS (X : Cx) (s : Stmt) : TS := fun D σ H => ∃ t, PS X s t ∧ t D σ H
def sSs (X : Cx) (ss : List Stmt) : TS := fun D σ H => ∃ t, PSs X ss t ∧ t D σ H
def sG (X : Cx) (tg : Expr) : TG := fun v σ H Q => ∃ t, PG X tg t ∧ t v σ H Q
def sI (X : Cx) (tg iter : Expr) : TI := fun σ H R => ∃ w, PI X tg iter w ∧ w σ H R
theorem pe_s {X : Cx} {e : Expr} : PE X e (sE X e) := ⟨fun pins s σ H Q I ⟨_, p, h⟩ => p.run pins s σ H Q I h⟩
theorem pt_s {X : Cx} {e : Expr} : PT X e (sT X e) := ⟨fun pins s σ H Q I ⟨_, p, h⟩ => p.run pins s σ H Q I h⟩
theorem pa_s {X : Cx} {es : List Expr} : PA X es (sA X es) := ⟨fun pos pins s σ H Q I ⟨_, p, h⟩ => p.run pos pins s σ H Q I h⟩
theorem ps_s {X : Cx} {s : Stmt} : PS X s (sS X s) := ⟨fun pins s σ H D I ⟨_, p, h⟩ => p.run pins s σ H D I h⟩
theorem pss_s {X : Cx} {ss : List Stmt} : PSs X ss (sSs X ss) := ⟨fun pins s σ H D I ⟨_, p, h⟩ => p.run pins s σ H D I h⟩
theorem pg_s {X : Cx} {tg : Expr} : PG X tg (sG X tg) := ⟨fun pins s σ H v u Q I r ⟨_, p, h⟩ => p.run pins s σ H v u Q I r h⟩
theorem pi_s {X : Cx} {tg iter : Expr} : PI X tg iter (sI X tg iter) := ⟨fun pins s σ H R I ⟨_, p, h⟩ => p.run pins s σ H R I h⟩

/-- a scope as it runs, as it is written -/
structure Scp where
  sc : Scope
  raw : Scope
/-- what is known of the context: the names by slot, the scope, the room for calls, the wish E about exceptions -/
structure XC (X : Cx) (N : List Str) (sc : Scp) (k : Nat) (E : XK) : Prop where
  nm : X.N = N
  nd : N.Nodup
  scp : X.env.scope = sc.sc
  calm : X.calm = true
  room : Room k X.A
  gd : X.A.guards = some []
  pass : Passes (L2.CX X.prog X.w) X E
  own : PassesOwn (model X.prog X.w) X.A X.env X.xe
  loc : ∀ x, L2.Loc sc.raw x → L2.Loc X.env.scope x ∧ (X.fn x = true ∨ X.env.scope.names.lookup x = some .local)

variable {X : Cx} {N : List Str} {sc : Scp} {k : Nat} {E : XK} {B : Bs} {Γ : List Slot}
def WE (X : Cx) (E : XK) (B : Bs) (Γ : List Slot) (e : Expr) {α : Type} (R : Rl α) (m : Out α) : Prop :=
  ∀ σ F H ω Q, EnvOk X.K B Γ σ F H ω → Post m (fun a => ∀ v F' H', Stp F H F' H' → R.rel X.K F' H' v a → Q v H') (RB X.K B E) → sE X e σ H Q
def WT (X : Cx) (E : XK) (B : Bs) (Γ : List Slot) (e : Expr) (m : Out Bool) : Prop :=
  ∀ σ F H ω Q, EnvOk X.K B Γ σ F H ω → Post m (fun b => ∀ F' H', Stp F H F' H' → Q b H') (RB X.K B E) → sT X e σ H Q
/-- a new thing -/
def WO (X : Cx) (E : XK) (B : Bs) (Γ : List Slot) (e : Expr) {α : Type} (O : Own α) (m : Out α) : Prop :=
  ∀ σ F H ω Q, EnvOk X.K B Γ σ F H ω → Post m (fun a => ∀ v F' H' S, Stp F H F' H' → (∀ p, S p → F' p = none ∧ H' p ≠ none ∧ H p = none) → O.rel X.K F' H' S v a → Q v H') (RB X.K B E) → sE X e σ H Q
/-- blocks, one behind another -/
def sK (X : Cx) : List (List Stmt) → TS
  | [] => fun D σ H => D.nx σ H
  | b :: bs => fun D σ H => sSs X b { D with nx := fun σ' H' => sK X bs D σ' H' } σ H
def WS (X : Cx) (E : XK) (B : Bs) (Γ : List Slot) (bs : List (List Stmt)) {β : Type} (m : Out β) (D : β → SOut) : Prop :=
  ∀ σ F H ω En, EnvOk X.K B Γ σ F H ω → Post m (fun b => EndOk X.K B F En (D b)) (RB X.K B E) → sK X bs En σ H
/-- one statement -/
def W1 (X : Cx) (E : XK) (B : Bs) (Γ : List Slot) (s : Stmt) {β : Type} (m : Out β) (D : β → SOut) : Prop :=
  ∀ σ F H ω En, EnvOk X.K B Γ σ F H ω → Post m (fun b => EndOk X.K B F En (D b)) (RB X.K B E) → sS X s En σ H
end SL

set_option Elab.async false
set_option linter.all false
set_option maxRecDepth 100000
set_option maxHeartbeats 2000000
/-! SLb: rules of the typed layer: expressions, tests. -/
namespace SL
open PySem PySem.Spec PyProof.Rows L2
variable {X : Cx} {N : List Str} {sc : Scp} {k : Nat} {E : XK} {B : Bs} {Γ : List Slot}

/-! ### weakening -/
def Rl.le {α : Type} (R S : Rl α) : Prop := ∀ K F H v a, R.rel K F H v a → S.rel K F H v a
theorem WE.sub {e : Expr} {α : Type} {R S : Rl α} {m : Out α} (h : WE X E B Γ e R m) (l : ∀ K F H v a, Same F H → R.rel K F H v a → S.rel K F H v a) : WE X E B Γ e S m :=
  fun σ F H ω Q e p => h σ F H ω Q e (p.imp fun a q v F' H' s r => q v F' H' s (l _ _ _ _ _ s.fh r))
theorem tLst_H {α : Type} {T : Ty α} : ∀ K F H v (a : List α), Same F H → (tLst T).rl.rel K F H v a → (rLstH T).rel K F H v a :=
  fun K F H v a s ⟨p, vs, e, q, r⟩ => ⟨p, vs, e, s _ _ q, r⟩
theorem rLst_H {α : Type} {T : Ty α} : ∀ K F H v (a : List α), Same F H → (rLstH T).rel K F H v a → (rLst T).rel K F H v a :=
  fun K F H v a s ⟨p, vs, e, q, r⟩ => ⟨p, vs, e, SqL.of q, r⟩
theorem tLstQ_le {α : Type} {T : Ty α} : ∀ K F H v (a : List α), Same F H → (tLstQ T).rl.rel K F H v a → (rLst T).rel K F H v a :=
  fun K F H v a s ⟨p, vs, e, q, r⟩ => ⟨p, vs, e, s.seq q, r⟩
/-- a list that may be read, of something fixed -/
theorem WE.rh {e : Expr} {α : Type} {T : Ty α} {m : Out (List α)} (h : WE X E B Γ e (tLst T).rl m) : WE X E B Γ e (rLstH T) m := h.sub tLst_H
theorem WE.hr {e : Expr} {α : Type} {T : Ty α} {m : Out (List α)} (h : WE X E B Γ e (rLstH T) m) : WE X E B Γ e (rLst T) m := h.sub rLst_H
theorem WE.rd {e : Expr} {α : Type} {T : Ty α} {m : Out (List α)} (h : WE X E B Γ e (tLst T).rl m) : WE X E B Γ e (rLst T) m := h.rh.hr
theorem WE.rq {e : Expr} {α : Type} {T : Ty α} {m : Out (List α)} (h : WE X E B Γ e (tLstQ T).rl m) : WE X E B Γ e (rLst T) m := h.sub tLstQ_le
theorem WE.cast {e : Expr} {α : Type} {R : Rl α} {m m' : Out α} (h : WE X E B Γ e R m) (q : m = m') : WE X E B Γ e R m' := q ▸ h
theorem WE.map {e : Expr} {α β : Type} {R : Rl α} {S : Rl β} {m : Out α} (h : WE X E B Γ e R m) (f : α → β) (l : ∀ K F H v a, Same F H → R.rel K F H v a → S.rel K F H v (f a)) : WE X E B Γ e S (m >>= fun a => pure (f a)) :=
  fun σ F H ω Q e p => h σ F H ω Q e (p.bind.imp fun a q v F' H' s r => q v F' H' s (l _ _ _ _ _ s.fh r))
/-- fixed -/
theorem WO.fz {e : Expr} {α : Type} {O : Own α} {T : Ty α} {m : Out α} (h : WO X E B Γ e O m) (z : Fz O T) : WE X E B Γ e T.rl m := fun σ F H ω Q e p =>
  h σ F H ω Q e (p.imp fun a q v F' H' S s d r => q v (frz F' H' S) H'
    ⟨s.ff.trans (frz_same fun p hp => (d p hp).1), frz_sub s.fh, s.hh, fun c x y => by
      rw [frz_out (fun hc => y (d c hc).2.2)]
      exact s.old c x y⟩ (z _ _ _ _ _ _ (fun p hp => (d p hp).1) r))
/-- a new list as one that may be read -/
theorem WO.rh {e : Expr} {α : Type} {T : Ty α} {m : Out (List α)} (h : WO X E B Γ e (oLst T) m) : WE X E B Γ e (rLstH T) m := (h.fz (fz_lst T)).rh
theorem WO.rd {e : Expr} {α : Type} {T : Ty α} {m : Out (List α)} (h : WO X E B Γ e (oLst T) m) : WE X E B Γ e (rLst T) m := (h.fz (fz_lst T)).rd

/-! ### names, constants -/
theorem join_some {σ : L2.St} {i : Nat} {v : V} (h : σ[i]?.join = some v) : σ[i]? = some (some v) := by
  cases e : σ[i]? with
  | none => rw [e] at h; cases h
  | some o => rw [e] at h; exact congrArg some h
theorem pv_ (C : XC X N sc k E) {i : Nat} {x : Str} {pos : Pos} (hN : N[i]? = some x) (hv : Vis sc.sc x) (hd : (x == ("__debug__" : Str)) = false) (hcd : (x == ("__classdict__" : Str)) = false) : PE X (.Name x pos) (tVar i) :=
  pe_var (by rw [C.nm]; exact hN) (by rw [C.scp]; exact hv) hd hcd
/-- what may be read of a slot -/
theorem we_slot (C : XC X N sc k E) (i : Nat) {x : Str} {pos : Pos} {α : Type} {O : Own α} {R : Rl α} {a : α} (l : ∀ K F H S v a, Same F H → O.rel K F H S v a → R.rel K F H v a) (hΓ : Γ[i]? = some (.on α O a)) (hN : N[i]? = some x) (hv : Vis sc.sc x)
    (hd : (x == ("__debug__" : Str)) = false) (hcd : (x == ("__classdict__" : Str)) = false) : WE X E B Γ (.Name x pos) R (pure a) := fun σ F H ω Q e p => by
  obtain ⟨v, hs, r⟩ := e.slot i _ hΓ
  exact ⟨_, pv_ C hN hv hd hcd, v, join_some hs, p v F H (Stp.refl e.fh) (l _ _ _ _ _ _ e.fh r)⟩
/-- the fixed thing in slot i -/
theorem we_var (C : XC X N sc k E) (i : Nat) {x : Str} {pos : Pos} {α : Type} {T : Ty α} {a : α} (hΓ : Γ[i]? = some (iS T a) := by rfl) (hN : N[i]? = some x := by rfl) (hv : Vis sc.sc x := by first | exact Or.inl rfl | exact Or.inr (Or.inl rfl) | exact Or.inr (Or.inr rfl))
    (hd : (x == ("__debug__" : Str)) = false := by decide) (hcd : (x == ("__classdict__" : Str)) = false := by decide) : WE X E B Γ (.Name x pos) T.rl (pure a) :=
  we_slot C i (R := T.rl) (fun _ _ _ _ _ _ _ r => r) hΓ hN hv hd hcd
/-- the own list in slot i -/
theorem we_ovar (C : XC X N sc k E) (i : Nat) {x : Str} {pos : Pos} {α : Type} {T : Ty α} {a : List α} (hΓ : Γ[i]? = some (.on _ (oLst T) a) := by rfl) (hN : N[i]? = some x := by rfl) (hv : Vis sc.sc x := by first | exact Or.inl rfl | exact Or.inr (Or.inl rfl) | exact Or.inr (Or.inr rfl))
    (hd : (x == ("__debug__" : Str)) = false := by decide) (hcd : (x == ("__classdict__" : Str)) = false := by decide) : WE X E B Γ (.Name x pos) (rLstH T) (pure a) :=
  we_slot C i (R := rLstH T) (fun _ _ _ _ _ _ _ h => by
    obtain ⟨p, vs, e, _, h, r⟩ := h
    exact ⟨p, vs, e, h, r⟩) hΓ hN hv hd hcd
theorem we_int {i : Int} {j : Nat} {pos : Pos} : WE X E B Γ (.Constant (.int i) j pos) tInt.rl (pure i) := fun σ F H ω Q e p => ⟨_, pe_int, p _ F H (Stp.refl e.fh) rfl⟩
theorem we_bl {b : Bool} {j : Nat} {pos : Pos} : WE X E B Γ (.Constant (.bool b) j pos) tBool.rl (pure b) := fun σ F H ω Q e p => ⟨_, pe_bl, p _ F H (Stp.refl e.fh) rfl⟩
theorem we_non {j : Nat} {pos : Pos} : WE X E B Γ (.Constant .none j pos) tNon.rl (pure ()) := fun σ F H ω Q e p => ⟨_, pe_non, p _ F H (Stp.refl e.fh) rfl⟩
theorem we_str {s : Str} {j : Nat} {pos : Pos} : WE X E B Γ (.Constant (.str s) j pos) tStr.rl (pure s) := fun σ F H ω Q e p => ⟨_, pe_str, p _ F H (Stp.refl e.fh) rfl⟩
/-- None where something may be -/
theorem we_nonO {α : Type} {T : Ty α} {j : Nat} {pos : Pos} : WE X E B Γ (.Constant .none j pos) (tOpt T).rl (pure none) := fun σ F H ω Q e p => ⟨_, pe_non, p _ F H (Stp.refl e.fh) rfl⟩
/-- a type whose things are never None -/
def NN {α : Type} (T : Ty α) : Prop := ∀ K F v a, T.rel K F v a → v ≠ .non
theorem nn_int : NN tInt := fun _ _ _ _ h => by rw [show _ = _ from h]; exact fun z => nomatch z
theorem nn_bool : NN tBool := fun _ _ _ _ h => by rw [show _ = _ from h]; exact fun z => nomatch z
theorem nn_str : NN tStr := fun _ _ _ _ h => by rw [show _ = _ from h]; exact fun z => nomatch z
theorem nn_tup {α : Type} {T : Ty α} : NN (tTup T) := fun _ _ _ _ ⟨_, _, e, _⟩ => by rw [e]; exact fun z => nomatch z
theorem nn_lst {α : Type} {T : Ty α} : NN (tLst T) := fun _ _ _ _ ⟨_, _, e, _⟩ => by rw [e]; exact fun z => nomatch z
theorem nn_t2 {α β : Type} {T : Ty α} {U : Ty β} : NN (tT2 T U) := fun _ _ _ _ ⟨_, _, _, e, _⟩ => by rw [e]; exact fun z => nomatch z
theorem nn_t3 {α β γ : Type} {T : Ty α} {U : Ty β} {W : Ty γ} : NN (tT3 T U W) := fun _ _ _ _ ⟨_, _, _, _, e, _⟩ => by rw [e]; exact fun z => nomatch z
theorem WE.some {e : Expr} {α : Type} {T : Ty α} {m : Out α} (h : WE X E B Γ e T.rl m) (n : NN T) : WE X E B Γ e (tOpt T).rl (m >>= fun a => pure (some a)) :=
  h.map Option.some fun K F H v a _ r => ⟨n K F v a r, r⟩

/-! ### two operands -/
/-- an operation on values: what f tells of the data -/
def VOp (K : PySem.W.Frag) (r : R2) {α β γ : Type} (R : Rl α) (S : Rl β) (W : Rl γ) (f : α → β → Out γ) : Prop :=
  ∀ (F H : Hp) (x y : V) (a : α) (b : β) (Q : VK) (J : Err → Prop), Same F H → R.rel K F H x a → S.rel K F H y b → Post (f a b) (fun c => ∀ v F' H', Stp F H F' H' → W.rel K F' H' v c → Q v H') J → r x y H Q
theorem two_ {e1 e2 : Expr} {α β γ : Type} {R : Rl α} {S : Rl β} {W : Rl γ} {r : R2} {f : α → β → Out γ} {m1 : Out α} {m2 : Out β} (h1 : WE X E B Γ e1 R m1) (h2 : WE X E B Γ e2 S m2) (hr : VOp X.K r R S W f)
    {σ : L2.St} {F H : Hp} {ω : Ow} {Q : VK} (e : EnvOk X.K B Γ σ F H ω) (p : Post (m1 >>= fun a => m2 >>= fun b => f a b) (fun c => ∀ v F' H', Stp F H F' H' → W.rel X.K F' H' v c → Q v H') (RB X.K B E)) :
    tOp r (sE X e1) (sE X e2) σ H Q := by
  refine h1 σ F H ω _ e (p.bind.imp fun a q v1 F1 H1 s1 r1 => ?_)
  refine h2 σ F1 H1 ω _ (e.stp s1) (q.bind.imp fun b q v2 F2 H2 s2 r2 => ?_)
  exact hr F2 H2 v1 v2 a b Q _ s2.fh (R.mono s2 r1) r2 (q.imp fun c q v F' H' s r => q v F' H' ((s1.trans s2).trans s) r)
theorem we_op {op : Operator} {r : R2} (ho : OpR X (binaryOp op) r) {e1 e2 : Expr} {α β γ : Type} {R : Rl α} {S : Rl β} {W : Rl γ} {f : α → β → Out γ} {m1 : Out α} {m2 : Out β} {pos : Pos} (hr : VOp X.K r R S W f)
    (h1 : WE X E B Γ e1 R m1) (h2 : WE X E B Γ e2 S m2) : WE X E B Γ (.BinOp e1 op e2 pos) W (m1 >>= fun a => m2 >>= fun b => f a b) :=
  fun σ F H ω Q e p => ⟨_, pe_op ho pe_s pe_s, two_ h1 h2 hr e p⟩
theorem we_cmp {op : CmpOp} {r : R2} (ho : OpR X (compareOp op) r) {e1 e2 : Expr} {α β γ : Type} {R : Rl α} {S : Rl β} {W : Rl γ} {f : α → β → Out γ} {m1 : Out α} {m2 : Out β} {pos : Pos} (hr : VOp X.K r R S W f) (hm : behindInMarks op e2 = false)
    (h1 : WE X E B Γ e1 R m1) (h2 : WE X E B Γ e2 S m2) : WE X E B Γ (.Compare e1 [op] [e2] pos) W (m1 >>= fun a => m2 >>= fun b => f a b) :=
  fun σ F H ω Q e p => ⟨_, pe_cmpR ho pe_s pe_s hm, two_ h1 h2 hr e p⟩
theorem wt_cmp {op : CmpOp} {r : R2} (ho : OpR X (compareOp op) r) {e1 e2 : Expr} {α β : Type} {R : Rl α} {S : Rl β} {f : α → β → Out Bool} {m1 : Out α} {m2 : Out β} {pos : Pos} (hr : VOp X.K r R S tBool.rl f) (hm : behindInMarks op e2 = false)
    (h1 : WE X E B Γ e1 R m1) (h2 : WE X E B Γ e2 S m2) : WT X E B Γ (.Compare e1 [op] [e2] pos) (m1 >>= fun a => m2 >>= fun b => f a b) :=
  fun σ F H ω Q e p => ⟨_, pt_cmpR ho pe_s pe_s hm, two_ (W := tBool.rl) h1 h2 hr e (p.imp fun c q v F' H' s r => ⟨c, r, q F' H' s⟩)⟩
/-- the two are known -/
theorem we_opP {op : Operator} {r : R2} (ho : OpR X (binaryOp op) r) {e1 e2 : Expr} {α β γ : Type} {R : Rl α} {S : Rl β} {W : Rl γ} {f : α → β → Out γ} {a : α} {b : β} {pos : Pos} (hr : VOp X.K r R S W f)
    (h1 : WE X E B Γ e1 R (pure a)) (h2 : WE X E B Γ e2 S (pure b)) : WE X E B Γ (.BinOp e1 op e2 pos) W (f a b) := we_op ho hr h1 h2

section
variable {K : PySem.W.Frag}
theorem v_I0 {g : Int → Int → Int} : VOp K (rI0 fun i j => .int (g i j)) tInt.rl tInt.rl tInt.rl (fun i j => pure (g i j)) := fun F H x y a b Q J s h1 h2 p => ⟨a, b, h1, h2, p _ F H (Stp.refl s) rfl⟩
theorem v_B0 {g : Int → Int → Bool} : VOp K (rI0 fun i j => .bl (g i j)) tInt.rl tInt.rl tBool.rl (fun i j => pure (g i j)) := fun F H x y a b Q J s h1 h2 p => ⟨a, b, h1, h2, p _ F H (Stp.refl s) rfl⟩
theorem v_I {C : Int → Int → Prop} [∀ i j, Decidable (C i j)] {g : Int → Int → Int} : VOp K (rI C fun i j => .int (g i j)) tInt.rl tInt.rl tInt.rl (fun i j => if C i j then pure (g i j) else .stuck) := fun F H x y a b Q J s h1 h2 p => by
  dsimp only at p
  by_cases c : C a b
  · rw [if_pos c] at p
    exact ⟨a, b, h1, h2, c, p _ F H (Stp.refl s) rfl⟩
  · rw [if_neg c] at p
    exact p.elim
instance (i j : Int) : Decidable (CDiv i j) := by unfold CDiv; infer_instance
instance (i j : Int) : Decidable (CMul i j) := by unfold CMul; infer_instance
instance (i j : Int) : Decidable (CPow i j) := by unfold CPow; infer_instance
end
/-- the rests and quotients by what is above 0, products -/
def mulO (i j : Int) : Out Int := if CMul i j then pure (i * j) else .stuck
def divO (i j : Int) : Out Int := if CDiv i j then pure (i / j) else .stuck
def modO (i j : Int) : Out Int := if 0 < j then pure (i % j) else .stuck
def powO (i j : Int) : Out Int := if CPow i j then pure (i ^ j.toNat) else .stuck
section
variable {e1 e2 : Expr} {m1 m2 : Out Int} {a b : Int} {pos : Pos}
theorem we_add (h1 : WE X E B Γ e1 tInt.rl m1) (h2 : WE X E B Γ e2 tInt.rl m2) : WE X E B Γ (.BinOp e1 .Add e2 pos) tInt.rl (m1 >>= fun a => m2 >>= fun b => pure (a + b)) := we_op op_add v_I0 h1 h2
theorem we_addP (h1 : WE X E B Γ e1 tInt.rl (pure a)) (h2 : WE X E B Γ e2 tInt.rl (pure b)) : WE X E B Γ (.BinOp e1 .Add e2 pos) tInt.rl (pure (a + b)) := we_op op_add v_I0 h1 h2
theorem we_sub (h1 : WE X E B Γ e1 tInt.rl m1) (h2 : WE X E B Γ e2 tInt.rl m2) : WE X E B Γ (.BinOp e1 .Sub e2 pos) tInt.rl (m1 >>= fun a => m2 >>= fun b => pure (a - b)) := we_op op_sub v_I0 h1 h2
theorem we_subP (h1 : WE X E B Γ e1 tInt.rl (pure a)) (h2 : WE X E B Γ e2 tInt.rl (pure b)) : WE X E B Γ (.BinOp e1 .Sub e2 pos) tInt.rl (pure (a - b)) := we_op op_sub v_I0 h1 h2
theorem we_mul (h1 : WE X E B Γ e1 tInt.rl m1) (h2 : WE X E B Γ e2 tInt.rl m2) : WE X E B Γ (.BinOp e1 .Mult e2 pos) tInt.rl (m1 >>= fun a => m2 >>= fun b => mulO a b) := we_op op_mul v_I h1 h2
theorem we_div (h1 : WE X E B Γ e1 tInt.rl m1) (h2 : WE X E B Γ e2 tInt.rl m2) : WE X E B Γ (.BinOp e1 .FloorDiv e2 pos) tInt.rl (m1 >>= fun a => m2 >>= fun b => divO a b) := we_op op_fdiv v_I h1 h2
theorem we_mod (h1 : WE X E B Γ e1 tInt.rl m1) (h2 : WE X E B Γ e2 tInt.rl m2) : WE X E B Γ (.BinOp e1 .Mod e2 pos) tInt.rl (m1 >>= fun a => m2 >>= fun b => modO a b) := we_op op_mod v_I h1 h2
theorem we_pow (h1 : WE X E B Γ e1 tInt.rl m1) (h2 : WE X E B Γ e2 tInt.rl m2) : WE X E B Γ (.BinOp e1 .Pow e2 pos) tInt.rl (m1 >>= fun a => m2 >>= fun b => powO a b) := we_op op_pow v_I h1 h2
theorem mulO_r {i j : Int} (h : (decide (-(2 ^ 64) < j) && decide (j < 2 ^ 64)) = true) : mulO i j = pure (i * j) := by
  simp only [Bool.and_eq_true, decide_eq_true_eq] at h
  exact if_pos (.inr h)
theorem mulO_l {i j : Int} (h : (decide (-(2 ^ 64) < i) && decide (i < 2 ^ 64)) = true) : mulO i j = pure (i * j) := by
  simp only [Bool.and_eq_true, decide_eq_true_eq] at h
  exact if_pos (.inl h)
theorem divO_l {i j : Int} (h : (decide (0 < j) && decide (j < 1073741824)) = true) : divO i j = pure (i / j) := by
  simp only [Bool.and_eq_true, decide_eq_true_eq] at h
  exact if_pos h
theorem modO_l {i j : Int} (h : decide (0 < j) = true) : modO i j = pure (i % j) := if_pos (of_decide_eq_true h)
theorem powO_l {i j n : Int} (h : (decide (CPow i j) && decide (i ^ j.toNat = n)) = true) : powO i j = pure n := by
  simp only [Bool.and_eq_true, decide_eq_true_eq] at h
  rw [powO, if_pos h.1, h.2]
/-- by written numbers -/
theorem we_mulR (h1 : WE X E B Γ e1 tInt.rl m1) (h2 : WE X E B Γ e2 tInt.rl (pure b)) (h : (decide (-(2 ^ 64) < b) && decide (b < 2 ^ 64)) = true := by rfl) : WE X E B Γ (.BinOp e1 .Mult e2 pos) tInt.rl (m1 >>= fun a => pure (a * b)) :=
  (we_mul h1 h2).cast (congrArg (Out.bind m1) (funext fun a => mulO_r h))
theorem we_mulL (h1 : WE X E B Γ e1 tInt.rl (pure a)) (h2 : WE X E B Γ e2 tInt.rl m2) (h : (decide (-(2 ^ 64) < a) && decide (a < 2 ^ 64)) = true := by rfl) : WE X E B Γ (.BinOp e1 .Mult e2 pos) tInt.rl (m2 >>= fun b => pure (a * b)) :=
  (we_mul h1 h2).cast (congrArg (Out.bind m2) (funext fun b => mulO_l h))
theorem we_divR (h1 : WE X E B Γ e1 tInt.rl m1) (h2 : WE X E B Γ e2 tInt.rl (pure b)) (h : (decide (0 < b) && decide (b < 1073741824)) = true := by rfl) : WE X E B Γ (.BinOp e1 .FloorDiv e2 pos) tInt.rl (m1 >>= fun a => pure (a / b)) :=
  (we_div h1 h2).cast (congrArg (Out.bind m1) (funext fun a => divO_l h))
theorem we_modR (h1 : WE X E B Γ e1 tInt.rl m1) (h2 : WE X E B Γ e2 tInt.rl (pure b)) (h : decide (0 < b) = true := by rfl) : WE X E B Γ (.BinOp e1 .Mod e2 pos) tInt.rl (m1 >>= fun a => pure (a % b)) :=
  (we_mod h1 h2).cast (congrArg (Out.bind m1) (funext fun a => modO_l h))
theorem we_powL (n : Int) (h1 : WE X E B Γ e1 tInt.rl (pure a)) (h2 : WE X E B Γ e2 tInt.rl (pure b)) (h : (decide (CPow a b) && decide (a ^ b.toNat = n)) = true := by decide +kernel) : WE X E B Γ (.BinOp e1 .Pow e2 pos) tInt.rl (pure n) :=
  (we_pow h1 h2).cast (powO_l h)
theorem we_lt (h1 : WE X E B Γ e1 tInt.rl m1) (h2 : WE X E B Γ e2 tInt.rl m2) : WE X E B Γ (.Compare e1 [.Lt] [e2] pos) tBool.rl (m1 >>= fun a => m2 >>= fun b => pure (decide (a < b))) := we_cmp op_lt v_B0 (nomark _) h1 h2
theorem we_le (h1 : WE X E B Γ e1 tInt.rl m1) (h2 : WE X E B Γ e2 tInt.rl m2) : WE X E B Γ (.Compare e1 [.LtE] [e2] pos) tBool.rl (m1 >>= fun a => m2 >>= fun b => pure (decide (a ≤ b))) := we_cmp op_le v_B0 (nomark _) h1 h2
theorem we_gt (h1 : WE X E B Γ e1 tInt.rl m1) (h2 : WE X E B Γ e2 tInt.rl m2) : WE X E B Γ (.Compare e1 [.Gt] [e2] pos) tBool.rl (m1 >>= fun a => m2 >>= fun b => pure (decide (b < a))) := we_cmp op_gt v_B0 (nomark _) h1 h2
theorem we_ge (h1 : WE X E B Γ e1 tInt.rl m1) (h2 : WE X E B Γ e2 tInt.rl m2) : WE X E B Γ (.Compare e1 [.GtE] [e2] pos) tBool.rl (m1 >>= fun a => m2 >>= fun b => pure (decide (b ≤ a))) := we_cmp op_ge v_B0 (nomark _) h1 h2
theorem wt_lt (h1 : WE X E B Γ e1 tInt.rl m1) (h2 : WE X E B Γ e2 tInt.rl m2) : WT X E B Γ (.Compare e1 [.Lt] [e2] pos) (m1 >>= fun a => m2 >>= fun b => pure (decide (a < b))) := wt_cmp op_lt v_B0 (nomark _) h1 h2
theorem wt_le (h1 : WE X E B Γ e1 tInt.rl m1) (h2 : WE X E B Γ e2 tInt.rl m2) : WT X E B Γ (.Compare e1 [.LtE] [e2] pos) (m1 >>= fun a => m2 >>= fun b => pure (decide (a ≤ b))) := wt_cmp op_le v_B0 (nomark _) h1 h2
theorem wt_gt (h1 : WE X E B Γ e1 tInt.rl m1) (h2 : WE X E B Γ e2 tInt.rl m2) : WT X E B Γ (.Compare e1 [.Gt] [e2] pos) (m1 >>= fun a => m2 >>= fun b => pure (decide (b < a))) := wt_cmp op_gt v_B0 (nomark _) h1 h2
theorem wt_ge (h1 : WE X E B Γ e1 tInt.rl m1) (h2 : WE X E B Γ e2 tInt.rl m2) : WT X E B Γ (.Compare e1 [.GtE] [e2] pos) (m1 >>= fun a => m2 >>= fun b => pure (decide (b ≤ a))) := wt_cmp op_ge v_B0 (nomark _) h1 h2
end
/-! == of scalars -/
/-- the values of a type are scalars that == tells apart as the data -/
def EqS {α : Type} [DecidableEq α] (T : Ty α) : Prop := ∀ K F x y a b, T.rel K F x a → T.rel K F y b → scal x y = true ∧ (decide (x = y) = decide (a = b))
theorem eqs_int : EqS tInt := fun K F x y a b h1 h2 => by
  rw [show x = .int a from h1, show y = .int b from h2]
  exact ⟨rfl, by simp⟩
theorem eqs_bool : EqS tBool := fun K F x y a b h1 h2 => by
  rw [show x = .bl a from h1, show y = .bl b from h2]
  exact ⟨rfl, by simp⟩
theorem eqs_str : EqS tStr := fun K F x y a b h1 h2 => by
  rw [show x = .str a from h1, show y = .str b from h2]
  exact ⟨rfl, by simp⟩
theorem eqs_optI : EqS (tOpt tInt) := fun K F x y a b h1 h2 => by
  cases a with
  | none =>
    rw [show x = .non from h1]
    cases b with
    | none =>
      rw [show y = .non from h2]
      exact ⟨rfl, by simp⟩
    | some j =>
      rw [show y = .int j from h2.2]
      exact ⟨rfl, by simp⟩
  | some i =>
    rw [show x = .int i from h1.2]
    cases b with
    | none =>
      rw [show y = .non from h2]
      exact ⟨rfl, by simp⟩
    | some j =>
      rw [show y = .int j from h2.2]
      exact ⟨rfl, by simp⟩
theorem v_eq {K : PySem.W.Frag} {α : Type} [DecidableEq α] {T : Ty α} (q : EqS T) : VOp K rEq T.rl T.rl tBool.rl (fun a b => pure (decide (a = b))) := fun F H x y a b Q J s h1 h2 p => by
  obtain ⟨q1, q2⟩ := q K F x y a b h1 h2
  exact ⟨q1, p _ F H (Stp.refl s) (by rw [q2] <;> rfl)⟩
theorem v_ne {K : PySem.W.Frag} {α : Type} [DecidableEq α] {T : Ty α} (q : EqS T) : VOp K rNe T.rl T.rl tBool.rl (fun a b => pure (!decide (a = b))) := fun F H x y a b Q J s h1 h2 p => by
  obtain ⟨q1, q2⟩ := q K F x y a b h1 h2
  exact ⟨q1, p _ F H (Stp.refl s) (by rw [q2] <;> rfl)⟩
section
variable {e1 e2 : Expr} {α : Type} [DecidableEq α] {T : Ty α} {m1 m2 : Out α} {pos : Pos}
theorem we_eq (q : EqS T) (h1 : WE X E B Γ e1 T.rl m1) (h2 : WE X E B Γ e2 T.rl m2) : WE X E B Γ (.Compare e1 [.Eq] [e2] pos) tBool.rl (m1 >>= fun a => m2 >>= fun b => pure (decide (a = b))) := we_cmp op_eq (v_eq q) (nomark _) h1 h2
theorem we_ne (q : EqS T) (h1 : WE X E B Γ e1 T.rl m1) (h2 : WE X E B Γ e2 T.rl m2) : WE X E B Γ (.Compare e1 [.NotEq] [e2] pos) tBool.rl (m1 >>= fun a => m2 >>= fun b => pure (!decide (a = b))) := we_cmp op_ne (v_ne q) (nomark _) h1 h2
theorem wt_eq (q : EqS T) (h1 : WE X E B Γ e1 T.rl m1) (h2 : WE X E B Γ e2 T.rl m2) : WT X E B Γ (.Compare e1 [.Eq] [e2] pos) (m1 >>= fun a => m2 >>= fun b => pure (decide (a = b))) := wt_cmp op_eq (v_eq q) (nomark _) h1 h2
theorem wt_ne (q : EqS T) (h1 : WE X E B Γ e1 T.rl m1) (h2 : WE X E B Γ e2 T.rl m2) : WT X E B Γ (.Compare e1 [.NotEq] [e2] pos) (m1 >>= fun a => m2 >>= fun b => pure (!decide (a = b))) := wt_cmp op_ne (v_ne q) (nomark _) h1 h2
end
/-- is None -/
theorem tOpt_non {K : PySem.W.Frag} {F : Hp} {α : Type} {T : Ty α} {x : V} {a : Option α} (h : (tOpt T).rel K F x a) : decide (x = .non) = a.isNone := by
  cases a with
  | none => rw [show x = .non from h]; rfl
  | some b => exact decide_eq_false h.1
theorem v_isN {K : PySem.W.Frag} {α : Type} {T : Ty α} : VOp K (fun x y H Q => y = .non ∧ Q (.bl (decide (x = .non))) H) (tOpt T).rl tNon.rl tBool.rl (fun a _ => pure a.isNone) := fun F H x y a b Q J s h1 h2 p => ⟨h2, p _ F H (Stp.refl s) (by rw [tOpt_non h1] <;> rfl)⟩
theorem v_notN {K : PySem.W.Frag} {α : Type} {T : Ty α} : VOp K (fun x y H Q => y = .non ∧ Q (.bl (!decide (x = .non))) H) (tOpt T).rl tNon.rl tBool.rl (fun a _ => pure a.isSome) := fun F H x y a b Q J s h1 h2 p => ⟨h2, p _ F H (Stp.refl s) (by
  rw [tOpt_non h1]
  cases a <;> rfl)⟩
section
variable {e1 e2 : Expr} {α : Type} {T : Ty α} {m1 : Out (Option α)} {j : Nat} {p2 pos : Pos}
theorem we_isN (h1 : WE X E B Γ e1 (tOpt T).rl m1) : WE X E B Γ (.Compare e1 [.Is] [.Constant .none j p2] pos) tBool.rl (m1 >>= fun a => pure a.isNone) := we_cmp op_isN v_isN (nomark _) h1 we_non
theorem we_notN (h1 : WE X E B Γ e1 (tOpt T).rl m1) : WE X E B Γ (.Compare e1 [.IsNot] [.Constant .none j p2] pos) tBool.rl (m1 >>= fun a => pure a.isSome) := we_cmp op_notN v_notN (nomark _) h1 we_non
theorem wt_isN (h1 : WE X E B Γ e1 (tOpt T).rl m1) : WT X E B Γ (.Compare e1 [.Is] [.Constant .none j p2] pos) (m1 >>= fun a => pure a.isNone) := wt_cmp op_isN v_isN (nomark _) h1 we_non
theorem wt_notN (h1 : WE X E B Γ e1 (tOpt T).rl m1) : WT X E B Γ (.Compare e1 [.IsNot] [.Constant .none j p2] pos) (m1 >>= fun a => pure a.isSome) := wt_cmp op_notN v_notN (nomark _) h1 we_non
end
/-- chains of two comparisons of ints: a op b op' c -/
theorem wt_chain {op op' : CmpOp} {g g' : Int → Int → Bool} (ho : OpR X (compareOp op) (rI0 fun i j => .bl (g i j))) (ho' : OpR X (compareOp op') (rI0 fun i j => .bl (g' i j))) {e1 e2 e3 : Expr} {m1 m2 m3 : Out Int} {pos : Pos}
    (h1 : WE X E B Γ e1 tInt.rl m1) (h2 : WE X E B Γ e2 tInt.rl m2) (h3 : WE X E B Γ e3 tInt.rl m3) (hm : lastMarks [op, op'] [e2, e3] = false := by with_unfolding_all rfl) :
    WT X E B Γ (.Compare e1 [op, op'] [e2, e3] pos) (m1 >>= fun a => m2 >>= fun b => if g a b = true then m3 >>= fun c => pure (g' b c) else pure false) := fun σ F H ω Q e p => by
  refine ⟨_, pt_chain ho ho' pe_s pe_s pe_s hm, ?_⟩
  refine h1 σ F H ω _ e (p.bind.imp fun a q v1 F1 H1 s1 r1 => ?_)
  refine h2 σ F1 H1 ω _ (e.stp s1) (q.bind.imp fun b q v2 F2 H2 s2 r2 => ?_)
  refine ⟨a, b, r1, r2, g a b, rfl, ?_⟩
  cases hg : g a b with
  | false =>
    rw [hg] at q
    exact ⟨false, rfl, q F2 H2 (s1.trans s2)⟩
  | true =>
    rw [hg] at q
    refine h3 σ F2 H2 ω _ ((e.stp s1).stp s2) (Post.imp (Post.bind q) fun c q v3 F3 H3 s3 r3 => ?_)
    exact ⟨b, c, r2, r3, g' b c, rfl, q F3 H3 ((s1.trans s2).trans s3)⟩
theorem we_chain {op op' : CmpOp} {g g' : Int → Int → Bool} (ho : OpR X (compareOp op) (rI0 fun i j => .bl (g i j))) (ho' : OpR X (compareOp op') (rI0 fun i j => .bl (g' i j))) {e1 e2 e3 : Expr} {m1 m2 m3 : Out Int} {pos : Pos}
    (h1 : WE X E B Γ e1 tInt.rl m1) (h2 : WE X E B Γ e2 tInt.rl m2) (h3 : WE X E B Γ e3 tInt.rl m3) (hm : lastMarks [op, op'] [e2, e3] = false := by with_unfolding_all rfl) :
    WE X E B Γ (.Compare e1 [op, op'] [e2, e3] pos) tBool.rl (m1 >>= fun a => m2 >>= fun b => if g a b = true then m3 >>= fun c => pure (g' b c) else pure false) := fun σ F H ω Q e p => by
  refine ⟨_, pe_chain ho ho' pe_s pe_s pe_s hm, ?_⟩
  refine h1 σ F H ω _ e (p.bind.imp fun a q v1 F1 H1 s1 r1 => ?_)
  refine h2 σ F1 H1 ω _ (e.stp s1) (q.bind.imp fun b q v2 F2 H2 s2 r2 => ?_)
  refine ⟨a, b, r1, r2, g a b, rfl, ?_⟩
  cases hg : g a b with
  | false =>
    rw [hg] at q
    exact q _ F2 H2 (s1.trans s2) rfl
  | true =>
    rw [hg] at q
    refine h3 σ F2 H2 ω _ ((e.stp s1).stp s2) (Post.imp (Post.bind q) fun c q v3 F3 H3 s3 r3 => ?_)
    exact ⟨b, c, r2, r3, q _ F3 H3 ((s1.trans s2).trans s3) rfl⟩

/-! ### tests -/
/-- any expression that is a bool, as a test -/
theorem wt_val {e : Expr} {m : Out Bool} (h : WE X E B Γ e tBool.rl m) (he : ∀ whole, isTrue e X.env whole = (do let v ← whole; standAt e.pos; holding [v] (truthy v)) := by intro _; rfl) : WT X E B Γ e m :=
  fun σ F H ω Q en p => ⟨_, pt_val pe_s he, h σ F H ω _ en (p.imp fun b q v F' H' s r => ⟨b, r, q F' H' s⟩)⟩
theorem wt_not {e : Expr} {m : Out Bool} {pos : Pos} (h : WT X E B Γ e m) : WT X E B Γ (.UnaryOp .Not e pos) (m >>= fun b => pure (!b)) :=
  fun σ F H ω Q en p => ⟨_, pt_not pt_s, h σ F H ω _ en (p.bind.imp fun b q F' H' s => q F' H' s)⟩
/-- and, or: WB tells the rest of the operands, whatever the whole is -/
def WB (X : Cx) (E : XK) (B : Bs) (Γ : List Slot) (e : Expr) (m : Out Bool) : Prop :=
  ∀ σ F H ω Q, EnvOk X.K B Γ σ F H ω → Post m (fun b => ∀ F' H', Stp F H F' H' → Q b H') (RB X.K B E) → ∃ t, PW X e t ∧ t σ H Q
theorem pw_s {e : Expr} : PW X e (fun σ H Q => ∃ t, PW X e t ∧ t σ H Q) := ⟨fun wh pins s σ H Q I ⟨_, p, h⟩ => p.run wh pins s σ H Q I h⟩
theorem wb_and1 {e : Expr} {m : Out Bool} {pos : Pos} (h : WT X E B Γ e m) : WB X E B Γ (.BoolOp .And [e] pos) m := fun σ F H ω Q en p => ⟨_, pw_and1 pt_s, h σ F H ω Q en p⟩
theorem wb_or1 {e : Expr} {m : Out Bool} {pos : Pos} (h : WT X E B Γ e m) : WB X E B Γ (.BoolOp .Or [e] pos) m := fun σ F H ω Q en p => ⟨_, pw_or1 pt_s, h σ F H ω Q en p⟩
theorem wb_and {a b : Expr} {rest : List Expr} {m n : Out Bool} {pos : Pos} (h1 : WT X E B Γ a m) (h2 : WB X E B Γ (.BoolOp .And (b :: rest) pos) n) : WB X E B Γ (.BoolOp .And (a :: b :: rest) pos) (m >>= fun c => if c = true then n else pure false) := fun σ F H ω Q en p => by
  refine ⟨_, pw_and pt_s pw_s, ?_⟩
  refine h1 σ F H ω _ en (p.bind.imp fun c q F1 H1 s1 => ?_)
  cases c with
  | true => exact h2 σ F1 H1 ω Q (en.stp s1) (Post.imp q fun b q F' H' s => q F' H' (s1.trans s))
  | false => exact q F1 H1 s1
theorem wb_or {a b : Expr} {rest : List Expr} {m n : Out Bool} {pos : Pos} (h1 : WT X E B Γ a m) (h2 : WB X E B Γ (.BoolOp .Or (b :: rest) pos) n) : WB X E B Γ (.BoolOp .Or (a :: b :: rest) pos) (m >>= fun c => if c = true then pure true else n) := fun σ F H ω Q en p => by
  refine ⟨_, pw_or pt_s pw_s, ?_⟩
  refine h1 σ F H ω _ en (p.bind.imp fun c q F1 H1 s1 => ?_)
  cases c with
  | false => exact h2 σ F1 H1 ω Q (en.stp s1) (Post.imp q fun b q F' H' s => q F' H' (s1.trans s))
  | true => exact q F1 H1 s1
theorem wt_b {e : Expr} {m : Out Bool} (h : WB X E B Γ e m) : WT X E B Γ e m := fun σ F H ω Q en p =>
  let ⟨_, q, r⟩ := h σ F H ω Q en p
  ⟨_, q.pt, r⟩
/-- .. as values, of bools -/
theorem we_bo1 {op : BoolOp} {e : Expr} {m : Out Bool} {pos : Pos} (h : WE X E B Γ e tBool.rl m) : WE X E B Γ (.BoolOp op [e] pos) tBool.rl m := fun σ F H ω Q en p => ⟨_, pe_one pe_s, h σ F H ω Q en p⟩
theorem we_and {a b : Expr} {rest : List Expr} {m n : Out Bool} {pos : Pos} (h1 : WE X E B Γ a tBool.rl m) (h2 : WE X E B Γ (.BoolOp .And (b :: rest) pos) tBool.rl n) : WE X E B Γ (.BoolOp .And (a :: b :: rest) pos) tBool.rl (m >>= fun c => if c = true then n else pure false) := fun σ F H ω Q en p => by
  refine ⟨_, pe_and pe_s pe_s, ?_⟩
  refine h1 σ F H ω _ en (p.bind.imp fun c q v F1 H1 s1 r => ⟨c, r, ?_⟩)
  cases c with
  | true => exact h2 σ F1 H1 ω Q (en.stp s1) (Post.imp q fun b q v F' H' s => q v F' H' (s1.trans s))
  | false => exact q _ F1 H1 s1 rfl
theorem we_or {a b : Expr} {rest : List Expr} {m n : Out Bool} {pos : Pos} (h1 : WE X E B Γ a tBool.rl m) (h2 : WE X E B Γ (.BoolOp .Or (b :: rest) pos) tBool.rl n) : WE X E B Γ (.BoolOp .Or (a :: b :: rest) pos) tBool.rl (m >>= fun c => if c = true then pure true else n) := fun σ F H ω Q en p => by
  refine ⟨_, pe_or pe_s pe_s, ?_⟩
  refine h1 σ F H ω _ en (p.bind.imp fun c q v F1 H1 s1 r => ⟨c, r, ?_⟩)
  cases c with
  | false => exact h2 σ F1 H1 ω Q (en.stp s1) (Post.imp q fun b q v F' H' s => q v F' H' (s1.trans s))
  | true => exact q _ F1 H1 s1 rfl
theorem we_not {e : Expr} {m : Out Bool} {pos : Pos} (h : WE X E B Γ e tBool.rl m) : WE X E B Γ (.UnaryOp .Not e pos) tBool.rl (m >>= fun b => pure (!b)) :=
  fun σ F H ω Q en p => ⟨_, pe_not pe_s, h σ F H ω _ en (p.bind.imp fun b q v F' H' s r => ⟨b, r, q _ F' H' s rfl⟩)⟩
theorem we_neg {e : Expr} {m : Out Int} {pos : Pos} (h : WE X E B Γ e tInt.rl m) : WE X E B Γ (.UnaryOp .USub e pos) tInt.rl (m >>= fun b => pure (-b)) :=
  fun σ F H ω Q en p => ⟨_, pe_un un_neg pe_s, h σ F H ω _ en (p.bind.imp fun b q v F' H' s r => ⟨b, r, q _ F' H' s rfl⟩)⟩
theorem we_if {c a b : Expr} {α : Type} {R : Rl α} {mc : Out Bool} {m n : Out α} {pos : Pos} (hc : WT X E B Γ c mc) (h1 : WE X E B Γ a R m) (h2 : WE X E B Γ b R n) : WE X E B Γ (.IfExp c a b pos) R (mc >>= fun t => if t = true then m else n) := fun σ F H ω Q en p => by
  refine ⟨_, pe_ifExp pt_s pe_s pe_s, ?_⟩
  refine hc σ F H ω _ en (p.bind.imp fun c q F1 H1 s1 => ?_)
  cases c with
  | true => exact h1 σ F1 H1 ω Q (en.stp s1) (Post.imp q fun b q v F' H' s => q v F' H' (s1.trans s))
  | false => exact h2 σ F1 H1 ω Q (en.stp s1) (Post.imp q fun b q v F' H' s => q v F' H' (s1.trans s))
/-- a sequence's truth -/
theorem fa2_empty {α : Type} {R : V → α → Prop} {vs : List V} {as : List α} (h : Fa2 R vs as) : vs.isEmpty = as.isEmpty := by cases h <;> rfl
theorem wt_lst {e : Expr} {α : Type} {T : Ty α} {m : Out (List α)} (h : WE X E B Γ e (rLst T) m) (he : ∀ whole, isTrue e X.env whole = (do let v ← whole; standAt e.pos; holding [v] (truthy v)) := by intro _; rfl) : WT X E B Γ e (m >>= fun a => pure (!a.isEmpty)) :=
  fun σ F H ω Q en p => ⟨_, pt_truth pe_s he, h σ F H ω _ en (p.bind.imp fun a q v F' H' s ⟨p, vs, e, sq, r⟩ => ⟨!vs.isEmpty, by subst e; exact .inl ⟨vs, sq, rfl⟩, by
    rw [fa2_empty r]
    exact q F' H' s⟩)⟩
theorem wt_tup {e : Expr} {α : Type} {T : Ty α} {m : Out (List α)} (h : WE X E B Γ e (tTup T).rl m) (he : ∀ whole, isTrue e X.env whole = (do let v ← whole; standAt e.pos; holding [v] (truthy v)) := by intro _; rfl) : WT X E B Γ e (m >>= fun a => pure (!a.isEmpty)) :=
  fun σ F H ω Q en p => ⟨_, pt_truth pe_s he, h σ F H ω _ en (p.bind.imp fun a q v F' H' s ⟨p, vs, e, sq, r⟩ => ⟨!vs.isEmpty, by subst e; exact .inr (.inl ⟨vs, seqT s.fh sq, rfl⟩), by
    rw [fa2_empty r]
    exact q F' H' s⟩)⟩
end SL

set_option Elab.async false
set_option linter.all false
set_option maxRecDepth 100000
set_option maxHeartbeats 2000000
/-! SLc: rules of the typed layer: built-in calls, sequences, displays. -/
namespace SL
open PySem PySem.Spec PyProof.Rows L2
variable {X : Cx} {N : List Str} {sc : Scp} {k : Nat} {E : XK} {B : Bs} {Γ : List Slot}

abbrev GlN (sc : Scp) (x : Str) : Prop := sc.sc.names.lookup x = some .globalImplicit
/-- names that the module leaves to the built-ins -/
structure Fre (mg : Str → Option Value) : Prop where
  len : mg "len" = none
  range : mg "range" = none
  int : mg "int" = none
  isinstance : mg "isinstance" = none
  list : mg "list" = none
  tuple : mg "tuple" = none
  enumerate : mg "enumerate" = none
  max : mg "max" = none
  min : mg "min" = none
  sorted : mg "sorted" = none
  set : mg "set" = none
  any : mg "any" = none
  all : mg "all" = none
  sum : mg "sum" = none
  zip : mg "zip" = none
  abs : mg "abs" = none
  bool : mg "bool" = none
  str : mg "str" = none
  VE : mg "ValueError" = none
  reversed : mg "reversed" = none
  repr : mg "repr" = none
theorem gl_ (C : XC X N sc k E) {x : Str} (h : GlN sc x) : Gl X x := by
  unfold Gl Env.kindOf
  rw [C.scp]
  exact h

/-! ### lengths of what is tracked -/
def LenOk (H : Hp) : Prop := ∀ p vs, (Rd H p (.lst vs) ∨ Rd H p (.tup vs)) → vs.length ≤ sizeLine
theorem len_inv {pins : List (Addr × Obj)} {σ : L2.St} {H : Hp} {s : Shared} (I : Inv X pins σ H s) : LenOk H := fun p vs h => by
  rcases h with h | h
  · exact (h.ok I.hok).1
  · exact (h.ok I.hok).1
theorem pe_len {e : Expr} {t : TE} (h : PE X e t) : PE X e (fun σ H Q => LenOk H → t σ H Q) := ⟨fun pins s σ H Q I q => h.run pins s σ H Q I (q (len_inv I))⟩
theorem pe_lenQ {e : Expr} {t : TE} (h : PE X e t) : PE X e (fun σ H Q => t σ H fun v H' => LenOk H' → Q v H') := ⟨fun pins s σ H Q I q =>
  thn (h.run pins s σ H _ I q) fun u s' ⟨v, H', I', r, q'⟩ => ⟨v, H', I', r, q' (len_inv I')⟩⟩
theorem sE_lenQ {e : Expr} {σ : L2.St} {H : Hp} {Q : VK} (h : sE X e σ H fun v H' => LenOk H' → Q v H') : sE X e σ H Q := ⟨_, pe_lenQ pe_s, h⟩
theorem sqL_len {K : PySem.W.Frag} {H : Hp} {p : Addr} {vs : List V} (h : SqL K H p vs) (l : LenOk H) : vs.length ≤ sizeLine := by
  rcases h with h | ⟨o, its, n, h1, h2, h3, h4, h5, h6⟩
  · exact l p vs (.inl h)
  · have := h6.length
    rw [this, Array.length_toList]
    exact h5
theorem sqT_len {K : PySem.W.Frag} {H : Hp} {p : Addr} {vs : List V} (h : SqT K H p vs) (l : LenOk H) : vs.length ≤ sizeLine := by
  rcases h with h | ⟨o, its, n, h1, h2, h3, h5, h6⟩
  · exact l p vs (.inr h)
  · have := h6.length
    rw [this, Array.length_toList]
    exact h5

/-! ### arguments -/
theorem pa1 {e : Expr} (hs : starEach (e :: []) X.env = (false, eval e X.env) :: starEach [] X.env) : PA X [e] (tCons (sE X e) tNil) := pa_cons pe_s pa_nil hs
theorem pa2 {e e2 : Expr} (hs : starEach (e :: e2 :: []) X.env = (false, eval e X.env) :: starEach (e2 :: []) X.env) (hs2 : starEach (e2 :: []) X.env = (false, eval e2 X.env) :: starEach [] X.env) : PA X [e, e2] (tCons (sE X e) (tCons (sE X e2) tNil)) := pa_cons pe_s (pa_cons pe_s pa_nil hs2) hs
/-- a built-in's answer on one, on two values -/
def VC1 (K : PySem.W.Frag) (r : List V → Hp → VK → Prop) {α γ : Type} (R : Rl α) (W : Rl γ) (f : α → Out γ) : Prop :=
  ∀ (F H : Hp) (x : V) (a : α) (Q : VK) (J : Err → Prop), Same F H → R.rel K F H x a → Post (f a) (fun c => ∀ v F' H', Stp F H F' H' → W.rel K F' H' v c → Q v H') J → r [x] H Q
def VC2 (K : PySem.W.Frag) (r : List V → Hp → VK → Prop) {α β γ : Type} (R : Rl α) (S : Rl β) (W : Rl γ) (f : α → β → Out γ) : Prop :=
  ∀ (F H : Hp) (x y : V) (a : α) (b : β) (Q : VK) (J : Err → Prop), Same F H → R.rel K F H x a → S.rel K F H y b → Post (f a b) (fun c => ∀ v F' H', Stp F H F' H' → W.rel K F' H' v c → Q v H') J → r [x, y] H Q
/-- .. that is new -/
def NC1 (K : PySem.W.Frag) (r : List V → Hp → VK → Prop) {α γ : Type} (R : Rl α) (O : Own γ) (f : α → Out γ) : Prop :=
  ∀ (F H : Hp) (x : V) (a : α) (Q : VK) (J : Err → Prop), Same F H → R.rel K F H x a → Post (f a) (fun c => ∀ v F' H' S, Stp F H F' H' → (∀ p, S p → F' p = none ∧ H' p ≠ none ∧ H p = none) → O.rel K F' H' S v c → Q v H') J → r [x] H Q
section
variable {x : Str} {id T : String} {r : List V → Hp → VK → Prop} {e e2 : Expr} {α β γ : Type} {R : Rl α} {S : Rl β} {W : Rl γ} {O : Own γ} {f : α → Out γ} {g : α → β → Out γ} {m : Out α} {m2 : Out β} {p pos : Pos}
theorem stp_none {F H F' H' : Hp} (s : Stp F H F' H') {p : Addr} (h : H' p = none) : H p = none := s.hh.free h
theorem cb1 (C : XC X N sc k E) (hc : CallR X (.builtin id) r) (hm : X.mg x = none) (hv : bootBuiltins x = some (.builtin id)) (hr : VC1 X.K r R W f) (h : WE X E B Γ e R m) (hg : GlN sc x)
    (hn : x ≠ "__name__" := by decide) (hdb : (x == ("__debug__" : Str)) = false := by decide) (he : starEach (e :: []) X.env = (false, eval e X.env) :: starEach [] X.env := by rfl) :
    WE X E B Γ (.Call (.Name x p) [e] [] pos) W (m >>= f) := fun σ F H ω Q en q =>
  ⟨_, pe_callB hc (gl_ C hg) hm hv (pa1 he) hn hdb he, h σ F H ω _ en (q.bind.imp fun a q v F' H' s rv => hr F' H' v a Q _ s.fh rv (q.imp fun c q v' F2 H2 s2 r2 => q v' F2 H2 (s.trans s2) r2))⟩
theorem ct1 (C : XC X N sc k E) (hc : CallR X (.type T) r) (hm : X.mg x = none) (hv : bootBuiltins x = some (.type T)) (hr : VC1 X.K r R W f) (h : WE X E B Γ e R m) (hg : GlN sc x)
    (hn : x ≠ "__name__" := by decide) (hdb : (x == ("__debug__" : Str)) = false := by decide) (he : starEach (e :: []) X.env = (false, eval e X.env) :: starEach [] X.env := by rfl) :
    WE X E B Γ (.Call (.Name x p) [e] [] pos) W (m >>= f) := fun σ F H ω Q en q =>
  ⟨_, pe_callTy hc (gl_ C hg) hm hv (pa1 he) hn hdb he, h σ F H ω _ en (q.bind.imp fun a q v F' H' s rv => hr F' H' v a Q _ s.fh rv (q.imp fun c q v' F2 H2 s2 r2 => q v' F2 H2 (s.trans s2) r2))⟩
theorem cb2 (C : XC X N sc k E) (hc : CallR X (.builtin id) r) (hm : X.mg x = none) (hv : bootBuiltins x = some (.builtin id)) (hr : VC2 X.K r R S W g) (h : WE X E B Γ e R m) (h2 : WE X E B Γ e2 S m2) (hg : GlN sc x)
    (hn : x ≠ "__name__" := by decide) (hdb : (x == ("__debug__" : Str)) = false := by decide) (he : starEach (e :: e2 :: []) X.env = (false, eval e X.env) :: starEach (e2 :: []) X.env := by rfl)
    (he2 : starEach (e2 :: []) X.env = (false, eval e2 X.env) :: starEach [] X.env := by rfl) (hpl : (backTo pos (starEach (e2 :: []) X.env)).any (·.1) = false := by rfl) :
    WE X E B Γ (.Call (.Name x p) [e, e2] [] pos) W (m >>= fun a => m2 >>= fun b => g a b) := fun σ F H ω Q en q =>
  ⟨_, pe_callB hc (gl_ C hg) hm hv (pa2 he he2) hn hdb he hpl, h σ F H ω _ en (q.bind.imp fun a q v F' H' s rv => h2 σ F' H' ω _ (en.stp s) (q.bind.imp fun b q v2 F2 H2 s2 rv2 =>
    hr F2 H2 v v2 a b Q _ s2.fh (R.mono s2 rv) rv2 (q.imp fun c q v' F3 H3 s3 r3 => q v' F3 H3 ((s.trans s2).trans s3) r3)))⟩
theorem new_of {F H F' H' F2 H2 : Hp} {S : Addr → Prop} (s : Stp F H F' H') (d : ∀ p, S p → F2 p = none ∧ H2 p ≠ none ∧ H' p = none) : ∀ p, S p → F2 p = none ∧ H2 p ≠ none ∧ H p = none := fun p hp => ⟨(d p hp).1, (d p hp).2.1, stp_none s (d p hp).2.2⟩
theorem cbO (C : XC X N sc k E) (hc : CallR X (.builtin id) r) (hm : X.mg x = none) (hv : bootBuiltins x = some (.builtin id)) (hr : NC1 X.K r R O f) (h : WE X E B Γ e R m) (hg : GlN sc x)
    (hn : x ≠ "__name__" := by decide) (hdb : (x == ("__debug__" : Str)) = false := by decide) (he : starEach (e :: []) X.env = (false, eval e X.env) :: starEach [] X.env := by rfl) :
    WO X E B Γ (.Call (.Name x p) [e] [] pos) O (m >>= f) := fun σ F H ω Q en q =>
  ⟨_, pe_callB hc (gl_ C hg) hm hv (pa1 he) hn hdb he, h σ F H ω _ en (q.bind.imp fun a q v F' H' s rv => hr F' H' v a Q _ s.fh rv (q.imp fun c q v' F2 H2 S s2 d r2 => q v' F2 H2 S (s.trans s2) (new_of s d) r2))⟩
theorem ctO (C : XC X N sc k E) (hc : CallR X (.type T) r) (hm : X.mg x = none) (hv : bootBuiltins x = some (.type T)) (hr : NC1 X.K r R O f) (h : WE X E B Γ e R m) (hg : GlN sc x)
    (hn : x ≠ "__name__" := by decide) (hdb : (x == ("__debug__" : Str)) = false := by decide) (he : starEach (e :: []) X.env = (false, eval e X.env) :: starEach [] X.env := by rfl) :
    WO X E B Γ (.Call (.Name x p) [e] [] pos) O (m >>= f) := fun σ F H ω Q en q =>
  ⟨_, pe_callTy hc (gl_ C hg) hm hv (pa1 he) hn hdb he, h σ F H ω _ en (q.bind.imp fun a q v F' H' s rv => hr F' H' v a Q _ s.fh rv (q.imp fun c q v' F2 H2 S s2 d r2 => q v' F2 H2 S (s.trans s2) (new_of s d) r2))⟩
end
/-- a new list at a free place -/
theorem new_lst {K : PySem.W.Frag} {F H : Hp} {α : Type} {T : Ty α} {p : Addr} {vs : List V} {as : List α} (s : Same F H) (n : H p = none) (r : Fa2 (T.rel K F) vs as) {Q : VK}
    (q : ∀ v F' H' (S : Addr → Prop), Stp F H F' H' → (∀ p, S p → F' p = none ∧ H' p ≠ none ∧ H p = none) → (oLst T).rel K F' H' S v as → Q v H') : Q (.ref p) (upd H p (.lst vs)) :=
  q (.ref p) F _ (fun a => a = p) (Stp.newH s n) (fun a e => by
    subst e
    exact ⟨s.free n, (by rw [upd_same]; exact fun z => nomatch z), n⟩) ⟨p, vs, rfl, rfl, upd_same, r⟩
theorem new_tup {K : PySem.W.Frag} {F H : Hp} {α : Type} {T : Ty α} {p : Addr} {vs : List V} {as : List α} (s : Same F H) (n : H p = none) (r : Fa2 (T.rel K F) vs as) {Q : VK}
    (q : ∀ v F' H', Stp F H F' H' → (tTup T).rl.rel K F' H' v as → Q v H') : Q (.ref p) (upd H p (.tup vs)) :=
  q (.ref p) _ _ (Stp.new s n) ⟨p, vs, rfl, SqT.of upd_same, r.imp fun _ _ h => T.mono (Stp.new (o := .tup vs) s n).ff h⟩
theorem fa2_int {K : PySem.W.Frag} {F : Hp} {vs : List V} {as : List Int} (h : Fa2 (tInt.rel K F) vs as) : vs = as.map V.int := by
  induction h with
  | nil => rfl
  | cons r _ ih => rw [ih, show _ = _ from r] <;> rfl
theorem fa2_bl {K : PySem.W.Frag} {F : Hp} {vs : List V} {as : List Bool} (h : Fa2 (tBool.rel K F) vs as) : vs = as.map V.bl := by
  induction h with
  | nil => rfl
  | cons r _ ih => rw [ih, show _ = _ from r] <;> rfl
theorem int_fa2 {K : PySem.W.Frag} {F : Hp} (as : List Int) : Fa2 (tInt.rel K F) (as.map V.int) as := by
  induction as with
  | nil => exact .nil
  | cons a r ih => exact .cons rfl ih

/-! ### len, list, tuple, sum, any, all, max, min, abs, int, sorted -/
def maxL : List Int → Out Int
  | [] => .stuck
  | x :: xs => pure (xs.foldl max x)
def minL : List Int → Out Int
  | [] => .stuck
  | x :: xs => pure (xs.foldl min x)
theorem foldl_max (xs : List Int) : ∀ x : Int, (xs.foldl max x ∈ x :: xs) ∧ ∀ y ∈ x :: xs, y ≤ xs.foldl max x := by
  induction xs with
  | nil => intro x; exact ⟨by simp, by simp⟩
  | cons z r ih =>
    intro x
    obtain ⟨h1, h2⟩ := ih (max x z)
    rw [List.foldl_cons]
    constructor
    · rcases List.mem_cons.mp h1 with h | h
      · rw [h]
        rcases Int.le_total x z with q | q
        · rw [Int.max_eq_right q]; simp
        · rw [Int.max_eq_left q]; simp
      · simp [h]
    · intro y hy
      have hm := h2 (max x z) (by simp)
      rcases List.mem_cons.mp hy with h | h
      · subst h; omega
      · rcases List.mem_cons.mp h with h | h
        · subst h; omega
        · exact h2 y (by simp [h])
theorem foldl_min (xs : List Int) : ∀ x : Int, (xs.foldl min x ∈ x :: xs) ∧ ∀ y ∈ x :: xs, xs.foldl min x ≤ y := by
  induction xs with
  | nil => intro x; exact ⟨by simp, by simp⟩
  | cons z r ih =>
    intro x
    obtain ⟨h1, h2⟩ := ih (min x z)
    rw [List.foldl_cons]
    constructor
    · rcases List.mem_cons.mp h1 with h | h
      · rw [h]
        rcases Int.le_total x z with q | q
        · rw [Int.min_eq_left q]; simp
        · rw [Int.min_eq_right q]; simp
      · simp [h]
    · intro y hy
      have hm := h2 (min x z) (by simp)
      rcases List.mem_cons.mp hy with h | h
      · subst h; omega
      · rcases List.mem_cons.mp h with h | h
        · subst h; omega
        · exact h2 y (by simp [h])
def sortI (xs : List Int) : List Int := xs.mergeSort (fun a b => decide (a ≤ b))
theorem sortI_perm (xs : List Int) : (sortI xs).Perm xs := List.mergeSort_perm _ _
theorem sortI_sorted (xs : List Int) : (sortI xs).Pairwise (· ≤ ·) := by
  have h := List.pairwise_mergeSort (le := fun a b : Int => decide (a ≤ b)) (fun a b c h1 h2 => by simp only [decide_eq_true_eq] at *; omega) (fun a b => by simp only [Bool.or_eq_true, decide_eq_true_eq]; omega) xs
  exact h.imp fun h => of_decide_eq_true h
theorem sorted_uniq : ∀ {xs ys : List Int}, xs.Perm ys → xs.Pairwise (· ≤ ·) → ys.Pairwise (· ≤ ·) → xs = ys
  | [], ys, p, _, _ => p.nil_eq
  | x :: xs, ys, p, h1, h2 => by
    cases ys with
    | nil => exact absurd p.length_eq (by simp)
    | cons y ys =>
      have hx : x ∈ y :: ys := p.mem_iff.mp (by simp)
      have hy : y ∈ x :: xs := p.mem_iff.mpr (by simp)
      have e : x = y := by
        have a1 : x ≤ y := by
          rcases List.mem_cons.mp hy with h | h
          · omega
          · exact (List.pairwise_cons.mp h1).1 y h
        have a2 : y ≤ x := by
          rcases List.mem_cons.mp hx with h | h
          · omega
          · exact (List.pairwise_cons.mp h2).1 x h
        omega
      subst e
      rw [sorted_uniq (List.Perm.cons_inv p) (List.pairwise_cons.mp h1).2 (List.pairwise_cons.mp h2).2]
section
variable {e e2 : Expr} {α : Type} {T : Ty α} {m : Out (List α)} {mi mj : Out Int} {ml : Out (List Int)} {mb : Out (List Bool)} {p pos : Pos}
theorem we_lenL (C : XC X N sc k E) (Z : Fre X.mg) (h : WE X E B Γ e (rLst T) m) (hg : GlN sc "len" := by rfl) (he : starEach (e :: []) X.env = (false, eval e X.env) :: starEach [] X.env := by rfl) :
    WE X E B Γ (.Call (.Name "len" p) [e] [] pos) tInt.rl (m >>= fun a => pure (a.length : Int)) :=
  cb1 (R := (rLst T)) C call_len_seq Z.len boot_len (fun F H x a Q J s ⟨p, vs, e, q, r⟩ po => ⟨p, vs, by rw [e], .inl q, by rw [r.len]; exact po _ F H (Stp.refl s) rfl⟩) h hg (he := he)
theorem we_lenT (C : XC X N sc k E) (Z : Fre X.mg) (h : WE X E B Γ e (tTup T).rl m) (hg : GlN sc "len" := by rfl) (he : starEach (e :: []) X.env = (false, eval e X.env) :: starEach [] X.env := by rfl) :
    WE X E B Γ (.Call (.Name "len" p) [e] [] pos) tInt.rl (m >>= fun a => pure (a.length : Int)) :=
  cb1 (R := (tTup T).rl) C call_len_seq Z.len boot_len (fun F H x a Q J s ⟨p, vs, e, q, r⟩ po => ⟨p, vs, by rw [e], .inr (seqT s q), by rw [r.len]; exact po _ F H (Stp.refl s) rfl⟩) h hg (he := he)
theorem wo_list (C : XC X N sc k E) (Z : Fre X.mg) (h : WE X E B Γ e (rLst T) m) (hg : GlN sc "list" := by rfl) (he : starEach (e :: []) X.env = (false, eval e X.env) :: starEach [] X.env := by rfl) :
    WO X E B Γ (.Call (.Name "list" p) [e] [] pos) (oLst T) (m >>= fun a => pure a) :=
  ctO (R := (rLst T)) C call_list_of Z.list (by decide +kernel) (fun F H x a Q J s ⟨p, vs, e, q, r⟩ po => ⟨p, vs, by rw [e], .inl q, fun l hl => new_lst s hl r po⟩) h hg (he := he)
theorem wo_listT (C : XC X N sc k E) (Z : Fre X.mg) (h : WE X E B Γ e (tTup T).rl m) (hg : GlN sc "list" := by rfl) (he : starEach (e :: []) X.env = (false, eval e X.env) :: starEach [] X.env := by rfl) :
    WO X E B Γ (.Call (.Name "list" p) [e] [] pos) (oLst T) (m >>= fun a => pure a) :=
  ctO (R := (tTup T).rl) C call_list_of Z.list (by decide +kernel) (fun F H x a Q J s ⟨p, vs, e, q, r⟩ po => ⟨p, vs, by rw [e], .inr (seqT s q), fun l hl => new_lst s hl r po⟩) h hg (he := he)
theorem we_tuple (C : XC X N sc k E) (Z : Fre X.mg) (h : WE X E B Γ e (rLst T) m) (hg : GlN sc "tuple" := by rfl) (he : starEach (e :: []) X.env = (false, eval e X.env) :: starEach [] X.env := by rfl) :
    WE X E B Γ (.Call (.Name "tuple" p) [e] [] pos) (tTup T).rl (m >>= fun a => pure a) :=
  ct1 (R := (rLst T)) C call_tuple_of Z.tuple (by decide +kernel) (fun F H x a Q J s ⟨p, vs, e, q, r⟩ po => ⟨p, vs, by rw [e], .inl ⟨q, fun l hl => new_tup s hl r po⟩⟩) h hg (he := he)
theorem we_tupleT (C : XC X N sc k E) (Z : Fre X.mg) (h : WE X E B Γ e (tTup T).rl m) (hg : GlN sc "tuple" := by rfl) (he : starEach (e :: []) X.env = (false, eval e X.env) :: starEach [] X.env := by rfl) :
    WE X E B Γ (.Call (.Name "tuple" p) [e] [] pos) (tTup T).rl (m >>= fun a => pure a) :=
  ct1 (R := (tTup T).rl) C call_tuple_of Z.tuple (by decide +kernel) (fun F H x a Q J s ⟨p, vs, e, q, r⟩ po => ⟨p, vs, by rw [e], .inr ⟨seqT s q, by
    subst e
    exact po _ F H (Stp.refl s) ⟨p, vs, rfl, q, r⟩⟩⟩) h hg (he := he)
theorem we_sum (C : XC X N sc k E) (Z : Fre X.mg) (h : WE X E B Γ e (rLst tInt) ml) (hg : GlN sc "sum" := by rfl) (he : starEach (e :: []) X.env = (false, eval e X.env) :: starEach [] X.env := by rfl) :
    WE X E B Γ (.Call (.Name "sum" p) [e] [] pos) tInt.rl (ml >>= fun a => pure a.sum) :=
  cb1 (R := (rLst tInt)) C (cr_sum C.calm) Z.sum (by decide +kernel) (fun F H x a Q J s ⟨p, vs, e, q, r⟩ po => ⟨p, a, by rw [e], by rw [← fa2_int r]; exact q, po _ F H (Stp.refl s) rfl⟩) h hg (he := he)
theorem we_any (C : XC X N sc k E) (Z : Fre X.mg) (h : WE X E B Γ e (rLst tBool) mb) (hg : GlN sc "any" := by rfl) (he : starEach (e :: []) X.env = (false, eval e X.env) :: starEach [] X.env := by rfl) :
    WE X E B Γ (.Call (.Name "any" p) [e] [] pos) tBool.rl (mb >>= fun a => pure (a.any id)) :=
  cb1 (R := (rLst tBool)) C (cr_any C.calm) Z.any (by decide +kernel) (fun F H x a Q J s ⟨p, vs, e, q, r⟩ po => ⟨p, a, by rw [e], by rw [← fa2_bl r]; exact q, po _ F H (Stp.refl s) rfl⟩) h hg (he := he)
theorem we_all (C : XC X N sc k E) (Z : Fre X.mg) (h : WE X E B Γ e (rLst tBool) mb) (hg : GlN sc "all" := by rfl) (he : starEach (e :: []) X.env = (false, eval e X.env) :: starEach [] X.env := by rfl) :
    WE X E B Γ (.Call (.Name "all" p) [e] [] pos) tBool.rl (mb >>= fun a => pure (a.all id)) :=
  cb1 (R := (rLst tBool)) C (cr_all C.calm) Z.all (by decide +kernel) (fun F H x a Q J s ⟨p, vs, e, q, r⟩ po => ⟨p, a, by rw [e], by rw [← fa2_bl r]; exact q, po _ F H (Stp.refl s) rfl⟩) h hg (he := he)
theorem we_maxL (C : XC X N sc k E) (Z : Fre X.mg) (h : WE X E B Γ e (rLst tInt) ml) (hg : GlN sc "max" := by rfl) (he : starEach (e :: []) X.env = (false, eval e X.env) :: starEach [] X.env := by rfl) :
    WE X E B Γ (.Call (.Name "max" p) [e] [] pos) tInt.rl (ml >>= maxL) :=
  cb1 (R := (rLst tInt)) C (cr_max C.calm) Z.max (by decide +kernel) (fun F H x a Q J s ⟨p, vs, e, q, r⟩ po => by
    cases a with
    | nil => exact po.elim
    | cons z zs =>
      refine ⟨p, z :: zs, by rw [e], by rw [← fa2_int r]; exact q, by simp, fun m h1 h2 => ?_⟩
      obtain ⟨g1, g2⟩ := foldl_max zs z
      have e2 : m = zs.foldl max z := Int.le_antisymm (g2 m h1) (h2 _ g1)
      rw [e2]
      exact po _ F H (Stp.refl s) rfl) h hg (he := he)
theorem we_minL (C : XC X N sc k E) (Z : Fre X.mg) (h : WE X E B Γ e (rLst tInt) ml) (hg : GlN sc "min" := by rfl) (he : starEach (e :: []) X.env = (false, eval e X.env) :: starEach [] X.env := by rfl) :
    WE X E B Γ (.Call (.Name "min" p) [e] [] pos) tInt.rl (ml >>= minL) :=
  cb1 (R := (rLst tInt)) C (cr_min C.calm) Z.min (by decide +kernel) (fun F H x a Q J s ⟨p, vs, e, q, r⟩ po => by
    cases a with
    | nil => exact po.elim
    | cons z zs =>
      refine ⟨p, z :: zs, by rw [e], by rw [← fa2_int r]; exact q, by simp, fun m h1 h2 => ?_⟩
      obtain ⟨g1, g2⟩ := foldl_min zs z
      have e2 : m = zs.foldl min z := Int.le_antisymm (h2 _ g1) (g2 m h1)
      rw [e2]
      exact po _ F H (Stp.refl s) rfl) h hg (he := he)
theorem we_max2 (C : XC X N sc k E) (Z : Fre X.mg) (h : WE X E B Γ e tInt.rl mi) (h2 : WE X E B Γ e2 tInt.rl mj) (hg : GlN sc "max" := by rfl) (he : starEach (e :: e2 :: []) X.env = (false, eval e X.env) :: starEach (e2 :: []) X.env := by rfl)
    (he2 : starEach (e2 :: []) X.env = (false, eval e2 X.env) :: starEach [] X.env := by rfl) (hpl : (backTo pos (starEach (e2 :: []) X.env)).any (·.1) = false := by rfl) :
    WE X E B Γ (.Call (.Name "max" p) [e, e2] [] pos) tInt.rl (mi >>= fun a => mj >>= fun b => pure (max a b)) :=
  cb2 C (call_max2 C.calm) Z.max (by decide +kernel) (fun F H x y a b Q J s h1 h2 po => ⟨a, b, by rw [show x = .int a from h1, show y = .int b from h2], by
    have e : (if b > a then b else a) = max a b := by
      by_cases c : b > a
      · rw [if_pos c]; omega
      · rw [if_neg c]; omega
    rw [e]
    exact po _ F H (Stp.refl s) rfl⟩) h h2 hg (he := he) (he2 := he2) (hpl := hpl)
theorem we_min2 (C : XC X N sc k E) (Z : Fre X.mg) (h : WE X E B Γ e tInt.rl mi) (h2 : WE X E B Γ e2 tInt.rl mj) (hg : GlN sc "min" := by rfl) (he : starEach (e :: e2 :: []) X.env = (false, eval e X.env) :: starEach (e2 :: []) X.env := by rfl)
    (he2 : starEach (e2 :: []) X.env = (false, eval e2 X.env) :: starEach [] X.env := by rfl) (hpl : (backTo pos (starEach (e2 :: []) X.env)).any (·.1) = false := by rfl) :
    WE X E B Γ (.Call (.Name "min" p) [e, e2] [] pos) tInt.rl (mi >>= fun a => mj >>= fun b => pure (min a b)) :=
  cb2 C (call_min2 C.calm) Z.min (by decide +kernel) (fun F H x y a b Q J s h1 h2 po => ⟨a, b, by rw [show x = .int a from h1, show y = .int b from h2], by
    have e : (if b < a then b else a) = min a b := by
      by_cases c : b < a
      · rw [if_pos c]; omega
      · rw [if_neg c]; omega
    rw [e]
    exact po _ F H (Stp.refl s) rfl⟩) h h2 hg (he := he) (he2 := he2) (hpl := hpl)
theorem we_abs (C : XC X N sc k E) (Z : Fre X.mg) (h : WE X E B Γ e tInt.rl mi) (hg : GlN sc "abs" := by rfl) (he : starEach (e :: []) X.env = (false, eval e X.env) :: starEach [] X.env := by rfl) :
    WE X E B Γ (.Call (.Name "abs" p) [e] [] pos) tInt.rl (mi >>= fun a => pure (if a < 0 then -a else a)) :=
  cb1 (R := tInt.rl) C call_abs Z.abs (by decide +kernel) (fun F H x a Q J s h1 po => ⟨a, by rw [show x = .int a from h1], po _ F H (Stp.refl s) rfl⟩) h hg (he := he)
theorem we_intI (C : XC X N sc k E) (Z : Fre X.mg) (h : WE X E B Γ e tInt.rl mi) (hg : GlN sc "int" := by rfl) (he : starEach (e :: []) X.env = (false, eval e X.env) :: starEach [] X.env := by rfl) :
    WE X E B Γ (.Call (.Name "int" p) [e] [] pos) tInt.rl (mi >>= fun a => pure a) :=
  ct1 (R := tInt.rl) C call_int1 Z.int boot_int (fun F H x a Q J s h1 po => .inl ⟨a, by rw [show x = .int a from h1], po _ F H (Stp.refl s) rfl⟩) h hg (he := he)
theorem we_intB {mb : Out Bool} (C : XC X N sc k E) (Z : Fre X.mg) (h : WE X E B Γ e tBool.rl mb) (hg : GlN sc "int" := by rfl) (he : starEach (e :: []) X.env = (false, eval e X.env) :: starEach [] X.env := by rfl) :
    WE X E B Γ (.Call (.Name "int" p) [e] [] pos) tInt.rl (mb >>= fun a => pure (if a = true then 1 else 0)) :=
  ct1 (R := tBool.rl) C call_int1 Z.int boot_int (fun F H x a Q J s h1 po => .inr ⟨a, by rw [show x = .bl a from h1], po _ F H (Stp.refl s) rfl⟩) h hg (he := he)
theorem wo_sorted (C : XC X N sc k E) (Z : Fre X.mg) (h : WE X E B Γ e (rLst tInt) ml) (hg : GlN sc "sorted" := by rfl) (he : starEach (e :: []) X.env = (false, eval e X.env) :: starEach [] X.env := by rfl) :
    WO X E B Γ (.Call (.Name "sorted" p) [e] [] pos) (oLst tInt) (ml >>= fun a => pure (sortI a)) :=
  cbO (R := (rLst tInt)) C cr_sortedI Z.sorted (by decide +kernel) (fun F H x a Q J s ⟨p, vs, e, q, r⟩ po => ⟨p, a, by rw [e], by rw [← fa2_int r]; exact q, fun ns' p' h1 h2 h3 => by
    have e2 : ns' = sortI a := sorted_uniq (h1.trans (sortI_perm a).symm) h2 (sortI_sorted a)
    rw [e2]
    exact new_lst s h3 (int_fa2 _) po⟩) h hg (he := he)
end

/-! ### subscripts -/
def idx {α : Type} (xs : List α) (i : Int) : Out α := match atI xs i with
  | some v => pure v
  | none => .stuck
theorem fa2_at {α : Type} {R : V → α → Prop} {vs : List V} {as : List α} (h : Fa2 R vs as) {i : Int} {a : α} (e : atI as i = some a) : ∃ v, atI vs i = some v ∧ R v a := by
  unfold atI at e ⊢
  rw [h.len]
  cases q : ixN as.length i with
  | none => rw [q] at e; cases e
  | some j =>
    rw [q] at e
    exact h.get (show as[j]? = some a from e)
theorem two_ix {r : R2} (hi : IxR X r) {e1 e2 : Expr} {α β γ : Type} {R : Rl α} {S : Rl β} {W : Rl γ} {f : α → β → Out γ} {m1 : Out α} {m2 : Out β} {pos : Pos} (hr : VOp X.K r R S W f)
    (h1 : WE X E B Γ e1 R m1) (h2 : WE X E B Γ e2 S m2) (hs : PlainIx e2) : WE X E B Γ (.Subscript e1 e2 pos) W (m1 >>= fun a => m2 >>= fun b => f a b) :=
  fun σ F H ω Q e p => ⟨_, pe_ix hi pe_s pe_s hs, two_ h1 h2 hr e p⟩
section
variable {e1 e2 : Expr} {α β γ : Type} {T : Ty α} {U : Ty β} {W : Ty γ} {m : Out (List α)} {mi : Out Int} {m2 : Out (α × β)} {m3 : Out (α × β × γ)} {pos p2 : Pos} {j : Nat}
theorem we_ixL (h1 : WE X E B Γ e1 (rLst T) m) (h2 : WE X E B Γ e2 tInt.rl mi) (hs : PlainIx e2 := by intro _ _; rfl) : WE X E B Γ (.Subscript e1 e2 pos) T.rl (m >>= fun a => mi >>= fun i => idx a i) :=
  two_ix (R := (rLst T)) (S := tInt.rl) ix_list (fun F H x y a b Q J s ⟨p, vs, e, q, r⟩ h2 po => by
    unfold idx at po
    cases q2 : atI a b with
    | none => rw [q2] at po; exact po.elim
    | some z =>
      rw [q2] at po
      obtain ⟨v, hv, rv⟩ := fa2_at r q2
      exact ⟨p, vs, b, v, e, h2, q, hv, po v F H (Stp.refl s) rv⟩) h1 h2 hs
theorem we_ixT (h1 : WE X E B Γ e1 (tTup T).rl m) (h2 : WE X E B Γ e2 tInt.rl mi) (hs : PlainIx e2 := by intro _ _; rfl) : WE X E B Γ (.Subscript e1 e2 pos) T.rl (m >>= fun a => mi >>= fun i => idx a i) :=
  two_ix (R := (tTup T).rl) (S := tInt.rl) ix_tup (fun F H x y a b Q J s ⟨p, vs, e, q, r⟩ h2 po => by
    unfold idx at po
    cases q2 : atI a b with
    | none => rw [q2] at po; exact po.elim
    | some z =>
      rw [q2] at po
      obtain ⟨v, hv, rv⟩ := fa2_at r q2
      exact ⟨p, vs, b, v, e, h2, seqT s q, hv, po v F H (Stp.refl s) rv⟩) h1 h2 hs
end
/-- a written int -/
def cI (i : Int) : Rl Unit := ⟨fun _ _ _ v _ => v = .int i, fun _ h => h⟩
theorem we_intC {i : Int} {j : Nat} {pos : Pos} : WE X E B Γ (.Constant (.int i) j pos) (cI i) (pure ()) := fun σ F H ω Q e p => ⟨_, pe_int, p _ F H (Stp.refl e.fh) rfl⟩
/-- the things of R are sequences with a T at place i -/
def PrjAt {α β : Type} (R : Rl α) (i : Int) (T : Ty β) (π : α → β) : Prop := ∀ K F H v a, Same F H → R.rel K F H v a → ∃ p vs w, v = .ref p ∧ (SqL K H p vs ∨ SqT K H p vs) ∧ atI vs i = some w ∧ T.rel K F w (π a)
theorem we_prj {e : Expr} {α β : Type} {R : Rl α} {T : Ty β} {π : α → β} {m : Out α} {i : Int} {j : Nat} {pos p2 : Pos} (hp : PrjAt R i T π) (h : WE X E B Γ e R m) : WE X E B Γ (.Subscript e (.Constant (.int i) j p2) pos) T.rl (m >>= fun a => pure (π a)) :=
  two_ix (R := R) (S := cI i) (m2 := pure ()) (f := fun a _ => pure (π a)) (ix_list.or ix_tup) (fun F H x y a b Q J s h1 h2 po => by
    obtain ⟨p, vs, w, e, q, hw, r⟩ := hp _ F H x a s h1
    rcases q with q | q
    · exact .inl ⟨p, vs, i, w, e, h2, q, hw, po w F H (Stp.refl s) r⟩
    · exact .inr ⟨p, vs, i, w, e, h2, q, hw, po w F H (Stp.refl s) r⟩) h we_intC (fun _ _ => rfl)
section
variable {α β γ δ : Type} {T : Ty α} {U : Ty β} {W : Ty γ} {V4 : Ty δ}
theorem pj10 : PrjAt (tT1 T).rl 0 T (fun a => a) := fun K F H v a s h => by
  obtain ⟨p, v1, e, q, r1⟩ := h
  exact ⟨p, _, v1, e, .inr (seqT s q), rfl, r1⟩
theorem pj20 : PrjAt (tT2 T U).rl 0 T (fun a => a.1) := fun K F H v a s h => by
  obtain ⟨p, v1, v2, e, q, r1, r2⟩ := h
  exact ⟨p, _, v1, e, .inr (seqT s q), rfl, r1⟩
theorem pj21 : PrjAt (tT2 T U).rl 1 U (fun a => a.2) := fun K F H v a s h => by
  obtain ⟨p, v1, v2, e, q, r1, r2⟩ := h
  exact ⟨p, _, v2, e, .inr (seqT s q), rfl, r2⟩
theorem pj30 : PrjAt (tT3 T U W).rl 0 T (fun a => a.1) := fun K F H v a s h => by
  obtain ⟨p, v1, v2, v3, e, q, r1, r2, r3⟩ := h
  exact ⟨p, _, v1, e, .inr (seqT s q), rfl, r1⟩
theorem pj31 : PrjAt (tT3 T U W).rl 1 U (fun a => a.2.1) := fun K F H v a s h => by
  obtain ⟨p, v1, v2, v3, e, q, r1, r2, r3⟩ := h
  exact ⟨p, _, v2, e, .inr (seqT s q), rfl, r2⟩
theorem pj32 : PrjAt (tT3 T U W).rl 2 W (fun a => a.2.2) := fun K F H v a s h => by
  obtain ⟨p, v1, v2, v3, e, q, r1, r2, r3⟩ := h
  exact ⟨p, _, v3, e, .inr (seqT s q), rfl, r3⟩
theorem pl20 : PrjAt (tL2 T U).rl 0 T (fun a => a.1) := fun K F H v a s h => by
  obtain ⟨p, v1, v2, e, q, r1, r2⟩ := h
  exact ⟨p, _, v1, e, .inl (SqL.of (s _ _ q)), rfl, r1⟩
theorem pl21 : PrjAt (tL2 T U).rl 1 U (fun a => a.2) := fun K F H v a s h => by
  obtain ⟨p, v1, v2, e, q, r1, r2⟩ := h
  exact ⟨p, _, v2, e, .inl (SqL.of (s _ _ q)), rfl, r2⟩
theorem pl30 : PrjAt (tL3 T U W).rl 0 T (fun a => a.1) := fun K F H v a s h => by
  obtain ⟨p, v1, v2, v3, e, q, r1, r2, r3⟩ := h
  exact ⟨p, _, v1, e, .inl (SqL.of (s _ _ q)), rfl, r1⟩
theorem pl31 : PrjAt (tL3 T U W).rl 1 U (fun a => a.2.1) := fun K F H v a s h => by
  obtain ⟨p, v1, v2, v3, e, q, r1, r2, r3⟩ := h
  exact ⟨p, _, v2, e, .inl (SqL.of (s _ _ q)), rfl, r2⟩
theorem pl32 : PrjAt (tL3 T U W).rl 2 W (fun a => a.2.2) := fun K F H v a s h => by
  obtain ⟨p, v1, v2, v3, e, q, r1, r2, r3⟩ := h
  exact ⟨p, _, v3, e, .inl (SqL.of (s _ _ q)), rfl, r3⟩
/-- a pair of two alike as a tuple, as a list -/
theorem t2_tup (K : PySem.W.Frag) (F H : Hp) (v : V) (a : α × α) (s : Same F H) (h : (tT2 T T).rl.rel K F H v a) : (tTup T).rl.rel K F H v [a.1, a.2] := by
  obtain ⟨p, v1, v2, e, q, r1, r2⟩ := h
  exact ⟨p, _, e, q, .cons r1 (.cons r2 .nil)⟩
theorem t3_tup (K : PySem.W.Frag) (F H : Hp) (v : V) (a : α × α × α) (s : Same F H) (h : (tT3 T T T).rl.rel K F H v a) : (tTup T).rl.rel K F H v [a.1, a.2.1, a.2.2] := by
  obtain ⟨p, v1, v2, v3, e, q, r1, r2, r3⟩ := h
  exact ⟨p, _, e, q, .cons r1 (.cons r2 (.cons r3 .nil))⟩
theorem l2_lst (K : PySem.W.Frag) (F H : Hp) (v : V) (a : α × α) (s : Same F H) (h : (tL2 T T).rl.rel K F H v a) : (tLst T).rl.rel K F H v [a.1, a.2] := by
  obtain ⟨p, v1, v2, e, q, r1, r2⟩ := h
  exact ⟨p, _, e, q, .cons r1 (.cons r2 .nil)⟩
end

/-! ### slices, joins -/
def cut {α : Type} (xs : List α) (lo hi : Option Int) : List α := (xs.drop (HT.sIx xs.length 0 lo)).take (HT.sIx xs.length xs.length hi - HT.sIx xs.length 0 lo)
theorem fa2_cut {α : Type} {R : V → α → Prop} {vs : List V} {as : List α} (h : Fa2 R vs as) (lo hi : Option Int) : Fa2 R (cutV vs lo hi) (cut as lo hi) := by
  unfold cutV cut
  rw [h.len]
  exact (h.drop _).take _
def sO (X : Cx) (e : Option Expr) : TO := fun σ H Q => ∃ t, PO X e t ∧ t σ H Q
theorem po_s {e : Option Expr} : PO X e (sO X e) := ⟨fun pins s σ H Q I ⟨_, p, h⟩ => p.run pins s σ H Q I h⟩
def WP (X : Cx) (E : XK) (B : Bs) (Γ : List Slot) (e : Option Expr) (m : Out (Option Int)) : Prop :=
  ∀ σ F H ω Q, EnvOk X.K B Γ σ F H ω → Post m (fun a => ∀ F' H', Stp F H F' H' → Q a H') (RB X.K B E) → sO X e σ H Q
theorem wp_no : WP X E B Γ none (pure none) := fun σ F H ω Q en p => ⟨_, po_none, p F H (Stp.refl en.fh)⟩
theorem wp_is {e : Expr} {m : Out Int} (h : WE X E B Γ e tInt.rl m) : WP X E B Γ (some e) (m >>= fun i => pure (some i)) := fun σ F H ω Q en p =>
  ⟨_, po_some pe_s, h σ F H ω _ en (p.bind.imp fun i q v F' H' s r => ⟨i, r, q F' H' s⟩)⟩
section
variable {e e2 : Expr} {lo hi : Option Expr} {α : Type} {T : Ty α} {m m2 : Out (List α)} {ml mh : Out (Option Int)} {mi : Out Int} {pos p2 : Pos}
theorem wo_cut (h : WE X E B Γ e (rLst T) m) (hl : WP X E B Γ lo ml) (hh : WP X E B Γ hi mh) : WO X E B Γ (.Subscript e (.Slice lo hi none p2) pos) (oLst T) (m >>= fun a => ml >>= fun l => mh >>= fun u => pure (cut a l u)) := fun σ F H ω Q en p => by
  refine ⟨_, pe_slice sl_list pe_s po_s po_s, ?_⟩
  refine h σ F H ω _ en (p.bind.imp fun a q v F1 H1 s1 r1 => ?_)
  refine hl σ F1 H1 ω _ (en.stp s1) (q.bind.imp fun l q F2 H2 s2 => ?_)
  refine hh σ F2 H2 ω _ ((en.stp s1).stp s2) (q.bind.imp fun u q F3 H3 s3 => ?_)
  obtain ⟨p, vs, e, sq, r⟩ := (rLst T).mono (s2.trans s3) r1
  exact ⟨p, vs, e, sq, fun d hd => new_lst s3.fh hd (fa2_cut r l u) fun v F4 H4 S s4 d r => q v F4 H4 S (((s1.trans s2).trans s3).trans s4) (new_of ((s1.trans s2).trans s3) d) r⟩
theorem we_cutT (h : WE X E B Γ e (tTup T).rl m) (hl : WP X E B Γ lo ml) (hh : WP X E B Γ hi mh) : WE X E B Γ (.Subscript e (.Slice lo hi none p2) pos) (tTup T).rl (m >>= fun a => ml >>= fun l => mh >>= fun u => pure (cut a l u)) := fun σ F H ω Q en p => by
  refine ⟨_, pe_slice sl_tupA pe_s po_s po_s, ?_⟩
  refine h σ F H ω _ en (p.bind.imp fun a q v F1 H1 s1 r1 => ?_)
  refine hl σ F1 H1 ω _ (en.stp s1) (q.bind.imp fun l q F2 H2 s2 => ?_)
  refine hh σ F2 H2 ω _ ((en.stp s1).stp s2) (q.bind.imp fun u q F3 H3 s3 => ?_)
  obtain ⟨p, vs, e, sq, r⟩ := (tTup T).mono (s2.trans s3).ff r1
  refine ⟨p, vs, e, seqT s3.fh sq, fun hw => ?_, fun hw d hd => new_tup s3.fh hd (fa2_cut r l u) fun v F4 H4 s4 r => q v F4 H4 (((s1.trans s2).trans s3).trans s4) r⟩
  refine q _ F3 H3 ((s1.trans s2).trans s3) ⟨p, vs, rfl, sq, ?_⟩
  have ew : cut a l u = a := by
    unfold cut
    rw [← r.len, hw.1, hw.2, List.drop_zero, Nat.sub_zero, r.len, List.take_length]
  rw [ew]
  exact r
/-- xs + ys -/
def catO {α : Type} (xs ys : List α) : Out (List α) := if xs.length + ys.length ≤ 16777216 then pure (xs ++ ys) else .stuck
theorem wo_cat (h : WE X E B Γ e (rLstH T) m) (h2 : WE X E B Γ e2 (rLstH T) m2) : WO X E B Γ (.BinOp e .Add e2 pos) (oLst T) (m >>= fun a => m2 >>= fun b => catO a b) := fun σ F H ω Q en p => by
  refine ⟨_, pe_op op_cat pe_s pe_s, ?_⟩
  refine h σ F H ω _ en (p.bind.imp fun a q v F1 H1 s1 r1 => ?_)
  refine h2 σ F1 H1 ω _ (en.stp s1) (q.bind.imp fun b q v2 F2 H2 s2 r2 => ?_)
  obtain ⟨p, vs, e, h1, r1⟩ := (rLstH T).mono s2 r1
  obtain ⟨p2, ws, e2, h2, r2⟩ := r2
  unfold catO at q
  by_cases c : a.length + b.length ≤ 16777216
  · rw [if_pos c] at q
    exact ⟨p, p2, vs, ws, e, e2, h1, h2, by rw [r1.len, r2.len, sizeLine_eq]; exact c, fun d hd => new_lst s2.fh hd (r1.app r2) fun v F4 H4 S s4 d r => q v F4 H4 S ((s1.trans s2).trans s4) (new_of (s1.trans s2) d) r⟩
  · rw [if_neg c] at q
    exact q.elim
theorem we_catT (h : WE X E B Γ e (tTup T).rl m) (h2 : WE X E B Γ e2 (tTup T).rl m2) : WE X E B Γ (.BinOp e .Add e2 pos) (tTup T).rl (m >>= fun a => m2 >>= fun b => catO a b) :=
  we_op (R := (tTup T).rl) (S := (tTup T).rl) op_catA (fun F H x y a b Q J s ⟨p, vs, e, q1, r1⟩ ⟨p2, ws, e2, q2, r2⟩ po => by
    unfold catO at po
    by_cases c : a.length + b.length ≤ 16777216
    · rw [if_pos c] at po
      refine ⟨p, p2, vs, ws, e, e2, seqT s q1, seqT s q2, by rw [r1.len, r2.len, sizeLine_eq]; exact c, fun z => ?_, fun z1 z2 => ?_, fun z1 z2 d hd => new_tup s hd (r1.app r2) po⟩
      · subst z
        cases r1
        exact po _ F H (Stp.refl s) ⟨p2, ws, rfl, q2, r2⟩
      · subst z2
        cases r2
        exact po _ F H (Stp.refl s) ⟨p, vs, rfl, q1, by rw [List.append_nil]; exact r1⟩
    · rw [if_neg c] at po
      exact po.elim) h h2
/-- xs * n -/
def repO {α : Type} (xs : List α) (n : Int) : Out (List α) := if 0 ≤ n ∧ (xs.length : Int) * n ≤ 16777216 ∧ n ≤ 16777216 then pure (List.replicate n.toNat xs).flatten else .stuck
theorem fa2_rep {α : Type} {R : V → α → Prop} {vs : List V} {as : List α} (h : Fa2 R vs as) : ∀ n : Nat, Fa2 R (List.replicate n vs).flatten (List.replicate n as).flatten
  | 0 => .nil
  | n + 1 => by
    rw [List.replicate_succ, List.replicate_succ, List.flatten_cons, List.flatten_cons]
    exact h.app (fa2_rep h n)
theorem wo_rep (h : WE X E B Γ e (rLstH T) m) (h2 : WE X E B Γ e2 tInt.rl mi) : WO X E B Γ (.BinOp e .Mult e2 pos) (oLst T) (m >>= fun a => mi >>= fun n => repO a n) := fun σ F H ω Q en p => by
  refine ⟨_, pe_op op_rep pe_s pe_s, ?_⟩
  refine h σ F H ω _ en (p.bind.imp fun a q v F1 H1 s1 r1 => ?_)
  refine h2 σ F1 H1 ω _ (en.stp s1) (q.bind.imp fun n q v2 F2 H2 s2 r2 => ?_)
  obtain ⟨p, vs, e, h1, r1⟩ := (rLstH T).mono s2 r1
  unfold repO at q
  by_cases c : 0 ≤ n ∧ (a.length : Int) * n ≤ 16777216 ∧ n ≤ 16777216
  · rw [if_pos c] at q
    refine ⟨p, n, vs, e, r2, h1, by omega, by omega, ?_, fun d hd => new_lst s2.fh hd (fa2_rep r1 _) fun v F4 H4 S s4 d r => q v F4 H4 S ((s1.trans s2).trans s4) (new_of (s1.trans s2) d) r⟩
    rw [r1.len, sizeLine_eq]
    have hn : ((n.toNat : Nat) : Int) = n := Int.toNat_of_nonneg c.1
    have := c.2.1
    rw [← hn] at this
    exact Int.ofNat_le.mp (by simpa using this)
  · rw [if_neg c] at q
    exact q.elim
/-- xs[::-1] -/
theorem wo_rev {j : Nat} {p1 p3 : Pos} (h : WE X E B Γ e (rLst T) m) : WO X E B Γ (.Subscript e (.Slice none none (some (.UnaryOp .USub (.Constant (.int 1) j p1) p2)) p3) pos) (oLst T) (m >>= fun a => pure a.reverse) := fun σ F H ω Q en p => by
  refine ⟨_, pe_revL pe_s, ?_⟩
  refine h σ F H ω _ en (p.bind.imp fun a q v F1 H1 s1 r1 => ?_)
  obtain ⟨p, vs, e, sq, r⟩ := r1
  exact ⟨p, vs, e, sq, fun d hd => new_lst s1.fh hd r.rev fun v F4 H4 S s4 d r => q v F4 H4 S (s1.trans s4) (new_of s1 d) r⟩
end

/-! ### in, not in -/
def EqF {α : Type} [DecidableEq α] (T : Ty α) : Prop := ∀ K F x y a b, T.rel K F x a → T.rel K F y b → flatV x = true ∧ eqV y x = decide (a = b)
theorem eqf_int : EqF tInt := fun K F x y a b h1 h2 => by
  rw [show x = .int a from h1, show y = .int b from h2]
  refine ⟨rfl, ?_⟩
  show (b == a) = decide (a = b)
  by_cases h : a = b
  · subst h; simp
  · simp [h, Ne.symm h]
theorem inV_eq {K : PySem.W.Frag} {F : Hp} {α : Type} [DecidableEq α] {T : Ty α} (q : EqF T) {x : V} {a : α} (hx : T.rel K F x a) : ∀ {vs : List V} {as : List α}, Fa2 (T.rel K F) vs as → vs.all flatV = true ∧ inV x vs = decide (a ∈ as)
  | _, _, .nil => ⟨rfl, by simp [inV]⟩
  | v :: vs, b :: as, .cons r t => by
    obtain ⟨h1, h2⟩ := inV_eq q hx t
    obtain ⟨f1, f2⟩ := q K F x v a b hx r
    obtain ⟨g1, _⟩ := q K F v x b a r hx
    refine ⟨by rw [List.all_cons, g1, h1] <;> rfl, ?_⟩
    unfold inV at h2 ⊢
    rw [List.any_cons, f2, h2]
    simp only [List.mem_cons]
    by_cases c : a = b <;> simp [c]
section
variable {e1 e2 : Expr} {α : Type} [DecidableEq α] {T : Ty α} {m1 : Out α} {m2 : Out (List α)} {pos : Pos}
theorem v_inL {K : PySem.W.Frag} (q : EqF T) : VOp K (rIn K false) T.rl (rLst T) tBool.rl (fun a as => pure (decide (a ∈ as))) := fun F H x y a b Q J s h1 ⟨p, vs, e, sq, r⟩ po => by
  obtain ⟨g1, g2⟩ := inV_eq q h1 r
  have fx : flatV x = true := (q _ F x x a a h1 h1).1
  exact ⟨p, vs, e, .inl sq, fx, g1, by rw [if_neg Bool.false_ne_true, g2]; exact po _ F H (Stp.refl s) rfl⟩
theorem v_inT {K : PySem.W.Frag} (q : EqF T) : VOp K (rIn K false) T.rl (tTup T).rl tBool.rl (fun a as => pure (decide (a ∈ as))) := fun F H x y a b Q J s h1 ⟨p, vs, e, sq, r⟩ po => by
  obtain ⟨g1, g2⟩ := inV_eq q h1 r
  have fx : flatV x = true := (q _ F x x a a h1 h1).1
  exact ⟨p, vs, e, .inr (seqT s sq), fx, g1, by rw [if_neg Bool.false_ne_true, g2]; exact po _ F H (Stp.refl s) rfl⟩
theorem v_niL {K : PySem.W.Frag} (q : EqF T) : VOp K (rIn K true) T.rl (rLst T) tBool.rl (fun a as => pure (!decide (a ∈ as))) := fun F H x y a b Q J s h1 ⟨p, vs, e, sq, r⟩ po => by
  obtain ⟨g1, g2⟩ := inV_eq q h1 r
  have fx : flatV x = true := (q _ F x x a a h1 h1).1
  exact ⟨p, vs, e, .inl sq, fx, g1, by rw [if_pos rfl, g2]; exact po _ F H (Stp.refl s) rfl⟩
theorem v_niT {K : PySem.W.Frag} (q : EqF T) : VOp K (rIn K true) T.rl (tTup T).rl tBool.rl (fun a as => pure (!decide (a ∈ as))) := fun F H x y a b Q J s h1 ⟨p, vs, e, sq, r⟩ po => by
  obtain ⟨g1, g2⟩ := inV_eq q h1 r
  have fx : flatV x = true := (q _ F x x a a h1 h1).1
  exact ⟨p, vs, e, .inr (seqT s sq), fx, g1, by rw [if_pos rfl, g2]; exact po _ F H (Stp.refl s) rfl⟩
theorem we_inL (q : EqF T) (h1 : WE X E B Γ e1 T.rl m1) (h2 : WE X E B Γ e2 (rLst T) m2) (hm : behindInMarks .In e2 = false := by with_unfolding_all rfl) : WE X E B Γ (.Compare e1 [.In] [e2] pos) tBool.rl (m1 >>= fun a => m2 >>= fun as => pure (decide (a ∈ as))) := we_cmp op_in_seq (v_inL q) hm h1 h2
theorem wt_inL (q : EqF T) (h1 : WE X E B Γ e1 T.rl m1) (h2 : WE X E B Γ e2 (rLst T) m2) (hm : behindInMarks .In e2 = false := by with_unfolding_all rfl) : WT X E B Γ (.Compare e1 [.In] [e2] pos) (m1 >>= fun a => m2 >>= fun as => pure (decide (a ∈ as))) := wt_cmp op_in_seq (v_inL q) hm h1 h2
theorem we_inT (q : EqF T) (h1 : WE X E B Γ e1 T.rl m1) (h2 : WE X E B Γ e2 (tTup T).rl m2) (hm : behindInMarks .In e2 = false := by with_unfolding_all rfl) : WE X E B Γ (.Compare e1 [.In] [e2] pos) tBool.rl (m1 >>= fun a => m2 >>= fun as => pure (decide (a ∈ as))) := we_cmp op_in_seq (v_inT q) hm h1 h2
theorem wt_inT (q : EqF T) (h1 : WE X E B Γ e1 T.rl m1) (h2 : WE X E B Γ e2 (tTup T).rl m2) (hm : behindInMarks .In e2 = false := by with_unfolding_all rfl) : WT X E B Γ (.Compare e1 [.In] [e2] pos) (m1 >>= fun a => m2 >>= fun as => pure (decide (a ∈ as))) := wt_cmp op_in_seq (v_inT q) hm h1 h2
theorem we_niL (q : EqF T) (h1 : WE X E B Γ e1 T.rl m1) (h2 : WE X E B Γ e2 (rLst T) m2) (hm : behindInMarks .NotIn e2 = false := by with_unfolding_all rfl) : WE X E B Γ (.Compare e1 [.NotIn] [e2] pos) tBool.rl (m1 >>= fun a => m2 >>= fun as => pure (!decide (a ∈ as))) := we_cmp op_notIn_seq (v_niL q) hm h1 h2
theorem wt_niL (q : EqF T) (h1 : WE X E B Γ e1 T.rl m1) (h2 : WE X E B Γ e2 (rLst T) m2) (hm : behindInMarks .NotIn e2 = false := by with_unfolding_all rfl) : WT X E B Γ (.Compare e1 [.NotIn] [e2] pos) (m1 >>= fun a => m2 >>= fun as => pure (!decide (a ∈ as))) := wt_cmp op_notIn_seq (v_niL q) hm h1 h2
theorem we_niT (q : EqF T) (h1 : WE X E B Γ e1 T.rl m1) (h2 : WE X E B Γ e2 (tTup T).rl m2) (hm : behindInMarks .NotIn e2 = false := by with_unfolding_all rfl) : WE X E B Γ (.Compare e1 [.NotIn] [e2] pos) tBool.rl (m1 >>= fun a => m2 >>= fun as => pure (!decide (a ∈ as))) := we_cmp op_notIn_seq (v_niT q) hm h1 h2
theorem wt_niT (q : EqF T) (h1 : WE X E B Γ e1 T.rl m1) (h2 : WE X E B Γ e2 (tTup T).rl m2) (hm : behindInMarks .NotIn e2 = false := by with_unfolding_all rfl) : WT X E B Γ (.Compare e1 [.NotIn] [e2] pos) (m1 >>= fun a => m2 >>= fun as => pure (!decide (a ∈ as))) := wt_cmp op_notIn_seq (v_niT q) hm h1 h2
end

/-! ### arguments in a row, displays -/
def WAc (X : Cx) (E : XK) (B : Bs) (Γ : List Slot) (es : List Expr) {β : Type} (c : PySem.W.Frag → Hp → Hp → List V → Out β → Prop) (m : Out β) : Prop :=
  ∀ σ F H ω (P : β → Prop) (Q : List V → Hp → Prop), EnvOk X.K B Γ σ F H ω → Post m P (RB X.K B E) → (∀ vs F' H' o, Stp F H F' H' → c X.K F' H' vs o → Post o P (RB X.K B E) → Q vs H') → sA X es σ H Q
theorem wa_nil {β : Type} {c : PySem.W.Frag → Hp → Hp → List V → Out β → Prop} {m : Out β} (h : ∀ K F H, Same F H → c K F H [] m) : WAc X E B Γ [] c m := fun σ F H ω P Q en p q => ⟨_, pa_nil, q [] F H m (Stp.refl en.fh) (h _ _ _ en.fh) p⟩
theorem wa_cons {β α : Type} {e : Expr} {es : List Expr} {R : Rl α} {m : Out α} {f : α → Out β} {c : PySem.W.Frag → Hp → Hp → List V → Out β → Prop} (h : WE X E B Γ e R m)
    (hr : ∀ a, WAc X E B Γ es (fun K F H vs o => ∀ v, R.rel K F H v a → c K F H (v :: vs) o) (f a)) (hs : starEach (e :: es) X.env = (false, eval e X.env) :: starEach es X.env := by rfl) : WAc X E B Γ (e :: es) c (m >>= f) := fun σ F H ω P Q en p q => by
  refine ⟨_, pa_cons pe_s pa_s hs, ?_⟩
  refine h σ F H ω _ en (p.bind.imp fun a po v F1 H1 s1 r1 => ?_)
  exact hr a σ F1 H1 ω P _ (en.stp s1) po fun vs F2 H2 o s2 hc ho => q (v :: vs) F2 H2 o (s1.trans s2) (hc v (R.mono s2 r1)) ho
/-- a written tuple, a written list, of whatever type -/
def SeqC (h : List V → HO) {α : Type} (T : Ty α) (K : PySem.W.Frag) (F _H : Hp) (vs : List V) (o : Out α) : Prop := ∃ a, o = pure a ∧ vs.length ≤ 1000 ∧ ∀ p F', Same F F' → F' p = some (h vs) → T.rel K F' (.ref p) a
theorem le_line {n : Nat} (h : n ≤ 1000) : n ≤ sizeLine := Nat.le_trans h (by decide)
theorem we_tupd {es : List Expr} {α : Type} {T : Ty α} {m : Out α} {j : Nat} {pos : Pos} (h : WAc X E B Γ es (SeqC .tup T) m) : WE X E B Γ (.Tuple es j pos) T.rl m := fun σ F H ω Q en p =>
  ⟨_, pe_tup pa_s, h σ F H ω _ _ en p fun vs F' H' o s ⟨a, e, hl, hT⟩ po => ⟨le_line hl, fun d hd => by
    subst e
    exact po (.ref d) _ _ (s.trans (Stp.new s.fh hd)) (hT d _ (Stp.new (o := .tup vs) s.fh hd).ff upd_same)⟩⟩
theorem we_lstd {es : List Expr} {α : Type} {T : Ty α} {m : Out α} {pos : Pos} (h : WAc X E B Γ es (SeqC .lst T) m) : WE X E B Γ (.List es pos) T.rl m := fun σ F H ω Q en p =>
  ⟨_, pe_lst pa_s, h σ F H ω _ _ en p fun vs F' H' o s ⟨a, e, hl, hT⟩ po => ⟨le_line hl, fun d hd => by
    subst e
    exact po (.ref d) _ _ (s.trans (Stp.new s.fh hd)) (hT d _ (Stp.new (o := .lst vs) s.fh hd).ff upd_same)⟩⟩
section
variable {e1 e2 e3 : Expr} {α β γ : Type} {T : Ty α} {U : Ty β} {W : Ty γ} {m1 : Out α} {m2 : Out β} {m3 : Out γ} {j : Nat} {pos : Pos}
theorem we_t1 (h1 : WE X E B Γ e1 T.rl m1) (s1 : starEach (e1 :: []) X.env = (false, eval e1 X.env) :: starEach [] X.env := by rfl) : WE X E B Γ (.Tuple [e1] j pos) (tT1 T).rl (m1 >>= fun a => pure a) :=
  we_tupd (wa_cons h1 (fun a => wa_nil fun K F H s v1 r1 => ⟨a, rfl, by simp, fun p F' s e => ⟨p, v1, rfl, SqT.of e, T.mono s r1⟩⟩) s1)
theorem we_t2 (h1 : WE X E B Γ e1 T.rl m1) (h2 : WE X E B Γ e2 U.rl m2) (s1 : starEach (e1 :: e2 :: []) X.env = (false, eval e1 X.env) :: starEach (e2 :: []) X.env := by rfl) (s2 : starEach (e2 :: []) X.env = (false, eval e2 X.env) :: starEach [] X.env := by rfl) :
    WE X E B Γ (.Tuple [e1, e2] j pos) (tT2 T U).rl (m1 >>= fun a => m2 >>= fun b => pure (a, b)) :=
  we_tupd (wa_cons h1 (fun a => wa_cons h2 (fun b => wa_nil fun K F H s v2 r2 v1 r1 => ⟨(a, b), rfl, by simp, fun p F' s e => ⟨p, v1, v2, rfl, SqT.of e, T.mono s r1, U.mono s r2⟩⟩) s2) s1)
theorem we_t3 (h1 : WE X E B Γ e1 T.rl m1) (h2 : WE X E B Γ e2 U.rl m2) (h3 : WE X E B Γ e3 W.rl m3) (s1 : starEach (e1 :: e2 :: e3 :: []) X.env = (false, eval e1 X.env) :: starEach (e2 :: e3 :: []) X.env := by rfl)
    (s2 : starEach (e2 :: e3 :: []) X.env = (false, eval e2 X.env) :: starEach (e3 :: []) X.env := by rfl) (s3 : starEach (e3 :: []) X.env = (false, eval e3 X.env) :: starEach [] X.env := by rfl) :
    WE X E B Γ (.Tuple [e1, e2, e3] j pos) (tT3 T U W).rl (m1 >>= fun a => m2 >>= fun b => m3 >>= fun c => pure (a, b, c)) :=
  we_tupd (wa_cons h1 (fun a => wa_cons h2 (fun b => wa_cons h3 (fun c => wa_nil fun K F H s v3 r3 v2 r2 v1 r1 => ⟨(a, b, c), rfl, by simp, fun p F' s e => ⟨p, v1, v2, v3, rfl, SqT.of e, T.mono s r1, U.mono s r2, W.mono s r3⟩⟩) s3) s2) s1)
theorem we_l2 (h1 : WE X E B Γ e1 T.rl m1) (h2 : WE X E B Γ e2 U.rl m2) (s1 : starEach (e1 :: e2 :: []) X.env = (false, eval e1 X.env) :: starEach (e2 :: []) X.env := by rfl) (s2 : starEach (e2 :: []) X.env = (false, eval e2 X.env) :: starEach [] X.env := by rfl) :
    WE X E B Γ (.List [e1, e2] pos) (tL2 T U).rl (m1 >>= fun a => m2 >>= fun b => pure (a, b)) :=
  we_lstd (wa_cons h1 (fun a => wa_cons h2 (fun b => wa_nil fun K F H s v2 r2 v1 r1 => ⟨(a, b), rfl, by simp, fun p F' s e => ⟨p, v1, v2, rfl, e, T.mono s r1, U.mono s r2⟩⟩) s2) s1)
theorem we_l3 (h1 : WE X E B Γ e1 T.rl m1) (h2 : WE X E B Γ e2 U.rl m2) (h3 : WE X E B Γ e3 W.rl m3) (s1 : starEach (e1 :: e2 :: e3 :: []) X.env = (false, eval e1 X.env) :: starEach (e2 :: e3 :: []) X.env := by rfl)
    (s2 : starEach (e2 :: e3 :: []) X.env = (false, eval e2 X.env) :: starEach (e3 :: []) X.env := by rfl) (s3 : starEach (e3 :: []) X.env = (false, eval e3 X.env) :: starEach [] X.env := by rfl) :
    WE X E B Γ (.List [e1, e2, e3] pos) (tL3 T U W).rl (m1 >>= fun a => m2 >>= fun b => m3 >>= fun c => pure (a, b, c)) :=
  we_lstd (wa_cons h1 (fun a => wa_cons h2 (fun b => wa_cons h3 (fun c => wa_nil fun K F H s v3 r3 v2 r2 v1 r1 => ⟨(a, b, c), rfl, by simp, fun p F' s e => ⟨p, v1, v2, v3, rfl, e, T.mono s r1, U.mono s r2, W.mono s r3⟩⟩) s3) s2) s1)
end
/-- items that are alike -/
def WAL (X : Cx) (E : XK) (B : Bs) (Γ : List Slot) (es : List Expr) {α : Type} (T : Ty α) (m : Out (List α)) : Prop :=
  ∀ σ F H ω (Q : List V → Hp → Prop), EnvOk X.K B Γ σ F H ω → Post m (fun as => ∀ vs F' H', Stp F H F' H' → vs.length = es.length → Fa2 (T.rel X.K F') vs as → Q vs H') (RB X.K B E) → sA X es σ H Q
theorem wal_nil {α : Type} {T : Ty α} : WAL X E B Γ [] T (pure []) := fun σ F H ω Q en p => ⟨_, pa_nil, p [] F H (Stp.refl en.fh) rfl .nil⟩
theorem wal_cons {α : Type} {T : Ty α} {e : Expr} {es : List Expr} {m : Out α} {n : Out (List α)} (h : WE X E B Γ e T.rl m) (hr : WAL X E B Γ es T n) (hs : starEach (e :: es) X.env = (false, eval e X.env) :: starEach es X.env := by rfl) :
    WAL X E B Γ (e :: es) T (m >>= fun a => n >>= fun as => pure (a :: as)) := fun σ F H ω Q en p => by
  refine ⟨_, pa_cons pe_s pa_s hs, ?_⟩
  refine h σ F H ω _ en (p.bind.imp fun a po v F1 H1 s1 r1 => ?_)
  exact hr σ F1 H1 ω _ (en.stp s1) (po.bind.imp fun as q vs F2 H2 s2 l r2 => q (v :: vs) F2 H2 (s1.trans s2) (by rw [List.length_cons, List.length_cons, l]) (.cons (T.mono s2.ff r1) r2))
theorem wo_lst {α : Type} {T : Ty α} {es : List Expr} {m : Out (List α)} {pos : Pos} (h : WAL X E B Γ es T m) (hn : es.length ≤ 1000 := by decide) : WO X E B Γ (.List es pos) (oLst T) m := fun σ F H ω Q en p =>
  ⟨_, pe_lst pa_s, h σ F H ω _ en (p.imp fun as q vs F' H' s l r => ⟨le_line (by rw [l]; exact hn), fun d hd => new_lst s.fh hd r fun v F4 H4 S s4 dd r => q v F4 H4 S (s.trans s4) (new_of s dd) r⟩)⟩
theorem we_tupl {α : Type} {T : Ty α} {es : List Expr} {m : Out (List α)} {j : Nat} {pos : Pos} (h : WAL X E B Γ es T m) (hn : es.length ≤ 1000 := by decide) : WE X E B Γ (.Tuple es j pos) (tTup T).rl m := fun σ F H ω Q en p =>
  ⟨_, pe_tup pa_s, h σ F H ω _ en (p.imp fun as q vs F' H' s l r => ⟨le_line (by rw [l]; exact hn), fun d hd => new_tup s.fh hd r fun v F4 H4 s4 r => q v F4 H4 (s.trans s4) r⟩)⟩
end SL

set_option Elab.async false
set_option linter.all false
set_option maxRecDepth 100000
set_option maxHeartbeats 2000000
/-! SLd: defs and their calls; what is walked; comprehensions. -/
namespace SL
open PySem PySem.Spec PyProof.Rows L2
variable {X : Cx} {N : List Str} {sc : Scp} {k : Nat} {E : XK} {B : Bs} {Γ : List Slot}

/-! ### parameters -/
structure Par (ι : Type) where
  n : Nat
  rel : PySem.W.Frag → Hp → List V → ι → Prop
  slots : ι → List Slot
  len : ∀ {K F vs i}, rel K F vs i → vs.length = n
  slen : ∀ i, (slots i).length = n
  ok : ∀ {K F vs i}, rel K F vs i → ∀ (H : Hp) (S : Addr → Prop) (j : Nat) (s : Slot), (slots i)[j]? = some s → s.ok K F H S vs[j]?
def pN : Par Unit := ⟨0, fun _ _ vs _ => vs = [], fun _ => [], fun h => by rw [h]; rfl, fun _ => rfl, fun _ _ _ j s h => by simp at h⟩
def pC {α ι : Type} (T : Ty α) (P : Par ι) : Par (α × ι) where
  n := P.n + 1
  rel := fun K F vs i => ∃ v ws, vs = v :: ws ∧ T.rel K F v i.1 ∧ P.rel K F ws i.2
  slots := fun i => iS T i.1 :: P.slots i.2
  len := fun ⟨v, ws, e, _, r⟩ => by rw [e, List.length_cons, P.len r]
  slen := fun i => by rw [List.length_cons, P.slen]
  ok := fun ⟨v, ws, e, r1, r2⟩ H S j s h => by
    subst e
    cases j with
    | zero =>
      simp only [List.getElem?_cons_zero, Option.some.injEq] at h
      subst h
      exact ⟨v, rfl, r1⟩
    | succ j =>
      simp only [List.getElem?_cons_succ] at h ⊢
      exact P.ok r2 H S j s h

/-! ### promises -/
def Sps {ι β : Type} (P : Par ι) (m : ι → Out β) (T : Ty β) (K : PySem.W.Frag) : Sp := fun vs H Q E => ∃ (i : ι) (F : Hp), Same F H ∧ P.rel K F vs i ∧
  Post (m i) (fun b => ∀ v F' H', Stp F H F' H' → T.rel K F' v b → Q v H') (fun x => ∀ cls d F' H', Stp F H F' H' → ErrOk K F' x cls d → E cls d H')
/-- .. that hand back a new thing -/
def SpsO {ι β : Type} (P : Par ι) (m : ι → Out β) (O : Own β) (K : PySem.W.Frag) : Sp := fun vs H Q E => ∃ (i : ι) (F : Hp), Same F H ∧ P.rel K F vs i ∧
  Post (m i) (fun b => ∀ v F' H' S, Stp F H F' H' → (∀ p, S p → F' p = none ∧ H' p ≠ none ∧ H p = none) → O.rel K F' H' S v b → Q v H') (fun x => ∀ cls d F' H', Stp F H F' H' → ErrOk K F' x cls d → E cls d H')
/-- a def of the module: by its name, its level, what it promises -/
def Def (Pr : Program) (w : World) (K : PySem.W.Frag) (mg : Str → Option Value) (base : Heap) (k : Nat) (name : Str) (ps : List Str) (dvs : List V) (sp : Sp) : Prop :=
  ∃ (f : Addr) (fd : FuncData) (ds : List Value), FnG Pr w K mg base (L2.CX Pr w) k f fd ps sp ∧ mg name = some (.ref f) ∧ PySem.W.keepIn K (.ref f) = true ∧ Binds K fd ps ds ∧ Vals dvs ds
abbrev DefX (X : Cx) (k : Nat) (name : Str) (ps : List Str) (dvs : List V) (sp : Sp) : Prop := Def X.prog X.w X.K X.mg X.base k name ps dvs sp
def CallC {ι β : Type} (P : Par ι) (m : ι → Out β) (dvs : List V) (K : PySem.W.Frag) (F _H : Hp) (vs : List V) (o : Out β) : Prop := ∃ i, o = m i ∧ P.rel K F (vs ++ dvs) i
section
variable {ι β : Type} {P : Par ι} {mf : ι → Out β} {T : Ty β} {O : Own β} {j : Nat} {name : Str} {ps : List Str} {dvs : List V} {e : Expr} {es : List Expr} {m : Out β} {p pos : Pos}
theorem err_up {K : PySem.W.Frag} {Γ : List Slot} {σ : L2.St} {F H F' H' : Hp} {ω : Ow} (en : EnvOk K B Γ σ F H ω) (s : Stp F H F' H') {x : Err} (h : RB K B E x) : ∀ cls d F2 H2, Stp F' H' F2 H2 → ErrOk K F2 x cls d → E cls d H2 :=
  fun cls d F2 H2 s2 e => h cls d F2 H2 (en.base.stp (s.trans s2)) e
theorem sps_of {K : PySem.W.Frag} {Γ : List Slot} {σ : L2.St} {F H F' H' : Hp} {ω : Ow} (en : EnvOk K B Γ σ F H ω) (s : Stp F H F' H') {vs : List V} {o : Out β} {Q : VK} (hc : CallC P mf dvs K F' H' vs o)
    (po : Post o (fun b => ∀ v F' H', Stp F H F' H' → T.rl.rel K F' H' v b → Q v H') (RB K B E)) : Sps P mf T K (vs ++ dvs) H' Q E := by
  obtain ⟨i, rfl, r⟩ := hc
  exact ⟨i, F', s.fh, r, po.mono (fun b q v F2 H2 s2 r2 => q v F2 H2 (s.trans s2) r2) fun x h => err_up en s h⟩
theorem spsO_of {K : PySem.W.Frag} {Γ : List Slot} {σ : L2.St} {F H F' H' : Hp} {ω : Ow} (en : EnvOk K B Γ σ F H ω) (s : Stp F H F' H') {vs : List V} {o : Out β} {Q : VK} (hc : CallC P mf dvs K F' H' vs o)
    (po : Post o (fun b => ∀ v F' H' S, Stp F H F' H' → (∀ p, S p → F' p = none ∧ H' p ≠ none ∧ H p = none) → O.rel K F' H' S v b → Q v H') (RB K B E)) : SpsO P mf O K (vs ++ dvs) H' Q E := by
  obtain ⟨i, rfl, r⟩ := hc
  exact ⟨i, F', s.fh, r, po.mono (fun b q v F2 H2 S s2 d r2 => q v F2 H2 S (s.trans s2) (new_of s d) r2) fun x h => err_up en s h⟩
theorem we_call (C : XC X N sc k E) (G : DefX X j name ps dvs (Sps P mf T X.K)) (hk : j ≤ k) (ha : WAc X E B Γ (e :: es) (CallC P mf dvs) m) (hg : GlN sc name := by rfl) (hdb : (name == ("__debug__" : Str)) = false := by decide)
    (he : starEach (e :: es) X.env = (false, eval e X.env) :: starEach es X.env := by rfl) (hpl : (backTo pos (starEach es X.env)).any (·.1) = false := by rfl) : WE X E B Γ (.Call (.Name name p) (e :: es) [] pos) T.rl m := fun σ F H ω Q en q => by
  obtain ⟨f, fd, ds, G, gm, kp, hb, hd⟩ := G
  exact ⟨_, pe_callG G C.gd (C.room.mono hk) (gl_ C hg) gm kp hb hd C.pass pa_s hdb he hpl, ha σ F H ω _ _ en q fun vs F' H' o s hc po => sps_of en s hc po⟩
theorem wo_call (C : XC X N sc k E) (G : DefX X j name ps dvs (SpsO P mf O X.K)) (hk : j ≤ k) (ha : WAc X E B Γ (e :: es) (CallC P mf dvs) m) (hg : GlN sc name := by rfl) (hdb : (name == ("__debug__" : Str)) = false := by decide)
    (he : starEach (e :: es) X.env = (false, eval e X.env) :: starEach es X.env := by rfl) (hpl : (backTo pos (starEach es X.env)).any (·.1) = false := by rfl) : WO X E B Γ (.Call (.Name name p) (e :: es) [] pos) O m := fun σ F H ω Q en q => by
  obtain ⟨f, fd, ds, G, gm, kp, hb, hd⟩ := G
  exact ⟨_, pe_callG G C.gd (C.room.mono hk) (gl_ C hg) gm kp hb hd C.pass pa_s hdb he hpl, ha σ F H ω _ _ en q fun vs F' H' o s hc po => spsO_of en s hc po⟩
theorem we_call0 (C : XC X N sc k E) (G : DefX X j name ps dvs (Sps P mf T X.K)) (hk : j ≤ k) (ha : ∀ K F H, Same F H → CallC P mf dvs K F H [] m) (hg : GlN sc name := by rfl) (hdb : (name == ("__debug__" : Str)) = false := by decide) :
    WE X E B Γ (.Call (.Name name p) [] [] pos) T.rl m := fun σ F H ω Q en q => by
  obtain ⟨f, fd, ds, G, gm, kp, hb, hd⟩ := G
  exact ⟨_, pe_call0G G C.gd (C.room.mono hk) (gl_ C hg) gm kp hb hd C.pass hdb, sps_of en (Stp.refl en.fh) (ha _ _ _ en.fh) q⟩
end

/-! ### a def by its body -/
theorem start_get {N : List Str} {vs : List V} (j : Nat) (h : j < vs.length) : (L2.start N vs)[j]?.join = vs[j]? := by
  unfold L2.start
  rw [List.getElem?_append_left (by simpa using h), List.getElem?_map]
  cases e : vs[j]? <;> rfl
theorem xc_def {Pr : Program} {w : World} {K : PySem.W.Frag} {mg : Str → Option Value} {base : Heap} {N : List Str} {qual : Str} {scope : Scope} {f : Addr} {cd : Value} {A : Around} {outer : List Env} {s : Shared} {H : Hp} {E : XK} {k : Nat} (nd : N.Nodup)
    (hg : A.guards = some []) (hr : Room k (A.deeper (envOfC qual scope s.heap.objs.size f cd))) : XC (cxOf (L2.CX Pr w) Pr w K mg base N qual scope f cd A outer s H E) N ⟨scope, scope⟩ k E :=
  ⟨rfl, nd, rfl, rfl, hr, hg, passes_call (takes_of rfl rfl rfl rfl) fun _ _ _ _ h => h, passes_of rfl, fun _ h => ⟨h, .inl rfl⟩⟩
def anyS : Nat → List Slot
  | 0 => []
  | n + 1 => .any :: anyS n
theorem anyS_get : ∀ (n j : Nat) (s : Slot), (anyS n)[j]? = some s → s = .any
  | 0, j, s, h => by simp [anyS] at h
  | n + 1, 0, s, h => by simp [anyS] at h; exact h.symm
  | n + 1, j + 1, s, h => anyS_get n j s (by simpa [anyS] using h)
theorem anyS_len : ∀ n : Nat, (anyS n).length = n
  | 0 => rfl
  | n + 1 => by rw [anyS, List.length_cons, anyS_len n]
theorem env_start {K : PySem.W.Frag} {ι : Type} {P : Par ι} {i : ι} {N : List Str} {vs : List V} {F H : Hp} (hF : Same F H) (hr : P.rel K F vs i) (hN : P.n ≤ N.length) : EnvOk K ⟨F, H, fun _ => False⟩ (P.slots i ++ anyS (N.length - P.n)) (L2.start N vs) F H (fun _ => none) := by
  have hl := P.len hr
  refine ⟨SW.refl hF, ?_, (fun a i h => nomatch h), fun j s h => ?_⟩
  · unfold L2.start
    rw [List.length_append, List.length_append, List.length_map, List.length_replicate, P.slen, anyS_len, hl]
  · by_cases c : j < P.n
    · rw [List.getElem?_append_left (by rw [P.slen]; exact c)] at h
      have q := P.ok hr H (fun a => (none : Option Nat) = some j) j s h
      rw [start_get j (by rw [hl]; exact c)]
      exact q
    · rw [List.getElem?_append_right (by rw [P.slen]; omega)] at h
      rw [anyS_get _ _ _ h]
      trivial
section
variable {Pr : Program} {w : World} {K : PySem.W.Frag} {mg : Str → Option Value} {base : Heap} {x qual : Str} {params : Arguments} {body : List Stmt} {scope : Scope} {dvs : List V} {kws : List (Str × V)} {f : Addr} {fd : FuncData}
variable {ι β : Type} {P : Par ι} {m : ι → Out β} {T : Ty β} {O : Own β} {N ps : List Str} {k : Nat}
theorem rb_of {F H : Hp} {E : XK} {x : Err} (h : ∀ cls d F' H', Stp F H F' H' → ErrOk K F' x cls d → E cls d H') : RB K ⟨F, H, fun _ => False⟩ E x := fun cls d F' H' s e => h cls d F' H' (SW.pure s) e
theorem fn_body (F : FunD K x qual params body scope dvs kws f fd) (S : FnScope N ps scope) (hn : P.n = ps.length) (hN : P.n ≤ N.length)
    (h : ∀ (X : Cx) (E : XK) (B : Bs) (i : ι), X.prog = Pr → X.w = w → X.K = K → X.mg = mg → X.base = base → (∀ p, ¬ B.W p) → XC X N ⟨scope, scope⟩ k E → WS X E B (P.slots i ++ anyS (N.length - P.n)) [body] (m i) (fun b => .rt β T b)) :
    FnG Pr w K mg base (L2.CX Pr w) (k + 1) f fd ps (Sps P m T K) := by
  refine okG F S (fun vs H Q E ⟨i, F0, _, r, _⟩ => (P.len r).trans hn) fun cdv A outer s H vs Q E hg hr ⟨i, F0, hF, r, po⟩ => ?_
  have q := h (cxOf (L2.CX Pr w) Pr w K mg base N qual scope f cdv A outer s H E) E ⟨F0, H, fun _ => False⟩ i rfl rfl rfl rfl rfl (fun _ z => z) (xc_def S.nd hg hr) (L2.start N vs) F0 H (fun _ => none) { nx := fun _ H' => Q .non H', rt := Q } (env_start hF r hN)
    (po.mono (fun b q v F' H' s r => q v F' H' (SW.pure s) r) fun x q => rb_of q)
  obtain ⟨t, pt, ht⟩ := q
  exact ⟨t, pt, ht⟩
theorem fn_bodyO (F : FunD K x qual params body scope dvs kws f fd) (S : FnScope N ps scope) (hn : P.n = ps.length) (hN : P.n ≤ N.length)
    (h : ∀ (X : Cx) (E : XK) (B : Bs) (i : ι), X.prog = Pr → X.w = w → X.K = K → X.mg = mg → X.base = base → (∀ p, ¬ B.W p) → XC X N ⟨scope, scope⟩ k E → WS X E B (P.slots i ++ anyS (N.length - P.n)) [body] (m i) (fun b => .ro β O b)) :
    FnG Pr w K mg base (L2.CX Pr w) (k + 1) f fd ps (SpsO P m O K) := by
  refine okG F S (fun vs H Q E ⟨i, F0, _, r, _⟩ => (P.len r).trans hn) fun cdv A outer s H vs Q E hg hr ⟨i, F0, hF, r, po⟩ => ?_
  have q := h (cxOf (L2.CX Pr w) Pr w K mg base N qual scope f cdv A outer s H E) E ⟨F0, H, fun _ => False⟩ i rfl rfl rfl rfl rfl (fun _ z => z) (xc_def S.nd hg hr) (L2.start N vs) F0 H (fun _ => none) { nx := fun _ H' => Q .non H', rt := Q } (env_start hF r hN)
    (po.mono (fun b q v F' H' S s d r => q v F' H' S (SW.pure s) d r) fun x q => rb_of q)
  obtain ⟨t, pt, ht⟩ := q
  exact ⟨t, pt, ht⟩
end

/-! ### what is walked -/
/-- the walk J gives the things of xs, one a turn -/
structure TW (K : PySem.W.Frag) (B : Bs) (st : Prop) (J : It) (F0 H0 : Hp) {α : Type} (T : Ty α) (xs : List α) : Prop where
  goes : ∀ i F H, i < xs.length → Same F0 F → Same F H → SW B.W B.F B.H F H → (st → Same H0 H) → J.go i H
  stops : ∀ F H, Same F0 F → Same F H → SW B.W B.F B.H F H → (st → Same H0 H) → J.stop xs.length H
  yields : ∀ i F H x H', i < xs.length → Same F0 F → Same F H → SW B.W B.F B.H F H → (st → Same H0 H) → J.yld i H x H' → ∃ F' a, Stp F H F' H' ∧ xs[i]? = some a ∧ T.rel K F' x a
/-- st: what is walked stands still as long as nothing old is written -/
def WIg (st : Prop) (X : Cx) (E : XK) (B : Bs) (Γ : List Slot) (tg iter : Expr) {α : Type} (T : Ty α) (m : Out (List α)) : Prop :=
  ∀ σ F H ω (R : It → Hp → Prop), EnvOk X.K B Γ σ F H ω → Post m (fun xs => ∀ J F' H', Stp F H F' H' → TW X.K B st J F' H' T xs → xs.length ≤ sizeLine → R J H') (RB X.K B E) → sI X tg iter σ H R
abbrev WI (X : Cx) (E : XK) (B : Bs) (Γ : List Slot) (tg iter : Expr) {α : Type} (T : Ty α) (m : Out (List α)) : Prop := WIg False X E B Γ tg iter T m
abbrev WIs (X : Cx) (E : XK) (B : Bs) (Γ : List Slot) (tg iter : Expr) {α : Type} (T : Ty α) (m : Out (List α)) : Prop := WIg True X E B Γ tg iter T m
theorem TW.s {K : PySem.W.Frag} {B : Bs} {st : Prop} {J : It} {F0 H0 : Hp} {α : Type} {T : Ty α} {xs : List α} (h : TW K B False J F0 H0 T xs) : TW K B st J F0 H0 T xs :=
  ⟨fun i F H a b c d _ => h.goes i F H a b c d False.elim, fun F H a b c _ => h.stops F H a b c False.elim, fun i F H x H' a b c d _ y => h.yields i F H x H' a b c d False.elim y⟩
theorem WIg.s {X : Cx} {E : XK} {B : Bs} {Γ : List Slot} {tg iter : Expr} {α : Type} {T : Ty α} {m : Out (List α)} (h : WI X E B Γ tg iter T m) : WIs X E B Γ tg iter T m := fun σ F H ω R en q =>
  h σ F H ω R en (q.imp fun xs q J F' H' s tw hl => q J F' H' s tw.s hl)
section
variable {tg e e2 : Expr} {α β : Type} {T : Ty α} {U : Ty β} {m : Out (List α)} {m2 : Out (List β)} {mi mj : Out Int} {p pos : Pos}
theorem wi_lst (h : WE X E B Γ e (tLst T).rl m) : WI X E B Γ tg e T m := fun σ F H ω R en q => by
  refine ⟨_, pi_list (pe_lenQ pe_s), ?_⟩
  refine h σ F H ω _ en (q.imp fun xs q v F1 H1 s1 ⟨p, vs, e, sq, r⟩ hl => ⟨p, e, ⟨vs, SqL.of (s1.fh _ _ sq)⟩, q _ F1 H1 s1 ?_ ?_⟩)
  · exact ⟨fun i F H hi sf sh _ _ => ⟨vs, vs[i]'(by rw [r.len]; exact hi), SqL.of (sh _ _ (sf _ _ sq)), by simp⟩, fun F H sf sh _ _ => ⟨vs, SqL.of (sh _ _ (sf _ _ sq)), by rw [r.len]; exact Nat.le_refl _⟩, fun i F H x H' hi sf sh _ _ y => by
      obtain ⟨rfl, y⟩ := y
      obtain ⟨a, ha, ra⟩ := r.getV (y vs (SqL.of (sh _ _ (sf _ _ sq))))
      exact ⟨F, a, Stp.refl sh, ha, T.mono sf ra⟩⟩
  · rw [← r.len]
    exact hl p vs (.inl (.inl (s1.fh _ _ sq)))
theorem wi_lstQ (h : WE X E B Γ e (tLstQ T).rl m) : WI X E B Γ tg e T m := fun σ F H ω R en q => by
  refine ⟨_, pi_list (pe_lenQ pe_s), ?_⟩
  refine h σ F H ω _ en (q.imp fun xs q v F1 H1 s1 ⟨p, vs, e, sq, r⟩ hl => ⟨p, e, ⟨vs, s1.fh.seq sq⟩, q _ F1 H1 s1 ?_ ?_⟩)
  · exact ⟨fun i F H hi sf sh _ _ => ⟨vs, vs[i]'(by rw [r.len]; exact hi), sh.seq (sf.seq sq), by simp⟩, fun F H sf sh _ _ => ⟨vs, sh.seq (sf.seq sq), by rw [r.len]; exact Nat.le_refl _⟩, fun i F H x H' hi sf sh _ _ y => by
      obtain ⟨rfl, y⟩ := y
      obtain ⟨a, ha, ra⟩ := r.getV (y vs (sh.seq (sf.seq sq)))
      exact ⟨F, a, Stp.refl sh, ha, T.mono sf ra⟩⟩
  · rw [← r.len]
    exact sqL_len (s1.fh.seq sq) hl
theorem wi_tup (h : WE X E B Γ e (tTup T).rl m) : WI X E B Γ tg e T m := fun σ F H ω R en q => by
  refine ⟨_, pi_tup (pe_lenQ pe_s), ?_⟩
  refine h σ F H ω _ en (q.imp fun xs q v F1 H1 s1 ⟨p, vs, e, sq, r⟩ hl => ⟨p, e, ⟨vs, seqT s1.fh sq⟩, q _ F1 H1 s1 ?_ ?_⟩)
  · exact ⟨fun i F H hi sf sh _ _ => ⟨vs, vs[i]'(by rw [r.len]; exact hi), seqT sh (seqT sf sq), by simp⟩, fun F H sf sh _ _ => ⟨vs, seqT sh (seqT sf sq), by rw [r.len]; exact Nat.le_refl _⟩, fun i F H x H' hi sf sh _ _ y => by
      obtain ⟨rfl, y⟩ := y
      obtain ⟨a, ha, ra⟩ := r.getV (y vs (seqT sh (seqT sf sq)))
      exact ⟨F, a, Stp.refl sh, ha, T.mono sf ra⟩⟩
  · rw [← r.len]
    exact sqT_len (seqT s1.fh sq) hl
/-- 0, 1, .. -/
def upto (n : Nat) : List Int := (List.range n).map fun (i : Nat) => (i : Int)
def fromto (a b : Int) : List Int := (List.range (b - a).toNat).map fun (i : Nat) => a + (i : Int)
theorem tw_range {K : PySem.W.Frag} {st : Prop} {F0 H0 : Hp} (lo : Int) (n : Nat) : TW K B st (Itr lo n) F0 H0 tInt ((List.range n).map fun (i : Nat) => lo + (i : Int)) := by
  refine ⟨fun i F H hi _ _ _ _ => (show i < n by simpa using hi), fun F H _ _ _ _ => by show n ≤ _; simp, fun i F H x H' hi sf sh _ _ y => ?_⟩
  obtain ⟨rfl, rfl⟩ := y
  have hi' : i < n := by simpa using hi
  exact ⟨F, lo + i, Stp.refl sh, by simp [hi'], rfl⟩
def rangeO (n : Int) : Out (List Int) := if -16777216 ≤ n ∧ n ≤ 16777216 then pure (upto n.toNat) else .stuck
def range2O (a b : Int) : Out (List Int) := if -16777216 ≤ a ∧ a ≤ 16777216 ∧ -16777216 ≤ b ∧ b ≤ 16777216 ∧ b - a ≤ 16777216 then pure (fromto a b) else .stuck
theorem upto_len (n : Nat) : (upto n).length = n := by simp [upto]
theorem fromto_len (a b : Int) : (fromto a b).length = (b - a).toNat := by simp [fromto]
theorem upto_eq (n : Nat) : upto n = (List.range n).map fun (i : Nat) => (0 : Int) + (i : Int) := by simp [upto]
theorem wi_range (C : XC X N sc k E) (Z : Fre X.mg) (h : WE X E B Γ e tInt.rl mi) (hg : GlN sc "range" := by rfl) (hs : starEach (e :: []) X.env = (false, eval e X.env) :: starEach [] X.env := by rfl) (hs2 : starEach [e] X.env = [(false, eval e X.env)] := by rfl) :
    WI X E B Γ tg (.Call (.Name "range" p) [e] [] pos) tInt (mi >>= rangeO) := fun σ F H ω R en q => by
  refine ⟨_, pi_range1 (gl_ C hg) Z.range (pa1 hs) hs2, ?_⟩
  refine h σ F H ω _ en (q.bind.imp fun n q v F1 H1 s1 r => ?_)
  unfold rangeO at q
  by_cases c : -16777216 ≤ n ∧ n ≤ 16777216
  · rw [if_pos c] at q
    exact ⟨n, by rw [show v = .int n from r], by omega, by omega, q _ F1 H1 s1 (by rw [upto_eq]; exact tw_range 0 n.toNat) (by rw [upto_len, sizeLine_eq]; omega)⟩
  · rw [if_neg c] at q
    exact q.elim
theorem wi_range2 (C : XC X N sc k E) (Z : Fre X.mg) (h : WE X E B Γ e tInt.rl mi) (h2 : WE X E B Γ e2 tInt.rl mj) (hg : GlN sc "range" := by rfl) (hs : starEach (e :: e2 :: []) X.env = (false, eval e X.env) :: starEach (e2 :: []) X.env := by rfl)
    (hs2 : starEach (e2 :: []) X.env = (false, eval e2 X.env) :: starEach [] X.env := by rfl) (hs3 : starEach [e, e2] X.env = [(false, eval e X.env), (false, eval e2 X.env)] := by rfl) (hs4 : starEach [e2] X.env = [(false, eval e2 X.env)] := by rfl) :
    WI X E B Γ tg (.Call (.Name "range" p) [e, e2] [] pos) tInt (mi >>= fun a => mj >>= fun b => range2O a b) := fun σ F H ω R en q => by
  refine ⟨_, pi_range2 (gl_ C hg) Z.range (pa2 hs hs2) hs3 hs4, ?_⟩
  refine h σ F H ω _ en (q.bind.imp fun a q v F1 H1 s1 r => ?_)
  refine h2 σ F1 H1 ω _ (en.stp s1) (q.bind.imp fun b q v2 F2 H2 s2 r2 => ?_)
  unfold range2O at q
  by_cases c : -16777216 ≤ a ∧ a ≤ 16777216 ∧ -16777216 ≤ b ∧ b ≤ 16777216 ∧ b - a ≤ 16777216
  · rw [if_pos c] at q
    exact ⟨a, b, by rw [show v = .int a from r, show v2 = .int b from r2], ⟨by omega, by omega, by omega, by omega⟩, q _ F2 H2 (s1.trans s2) (tw_range a _) (by rw [fromto_len, sizeLine_eq]; omega)⟩
  · rw [if_neg c] at q
    exact q.elim
/-- range(len(e)) of a list, of a tuple: no bound is asked -/
theorem wi_rlen (C : XC X N sc k E) (Z : Fre X.mg) {p2 pos2 : Pos} {R : Rl (List α)} (hR : ∀ K F H v (a : List α), Same F H → R.rel K F H v a → ∃ q vs, v = .ref q ∧ (SqL K H q vs ∨ SqT K H q vs) ∧ vs.length = a.length) (h : WE X E B Γ e R m) (hg : GlN sc "range" := by rfl) (hg2 : GlN sc "len" := by rfl)
    (he : starEach (e :: []) X.env = (false, eval e X.env) :: starEach [] X.env := by rfl) (hs : starEach (.Call (.Name "len" p2) [e] [] pos2 :: []) X.env = (false, eval (.Call (.Name "len" p2) [e] [] pos2) X.env) :: starEach [] X.env := by rfl)
    (hs2 : starEach [.Call (.Name "len" p2) [e] [] pos2] X.env = [(false, eval (.Call (.Name "len" p2) [e] [] pos2) X.env)] := by rfl) :
    WI X E B Γ tg (.Call (.Name "range" p) [.Call (.Name "len" p2) [e] [] pos2] [] pos) tInt (m >>= fun a => pure (upto a.length)) := fun σ F H ω W en q => by
  refine ⟨_, pi_range1 (gl_ C hg) Z.range (pa_cons (pe_callB call_len_seq (gl_ C hg2) Z.len boot_len (pa_cons (pe_lenQ pe_s) pa_nil he) (he := he)) pa_nil hs) hs2, ?_⟩
  refine h σ F H ω _ en (q.bind.imp fun a q v F1 H1 s1 r hl => ?_)
  obtain ⟨d, vs, e1, sq, l⟩ := hR _ F1 H1 v a s1.fh r
  have hz : a.length ≤ sizeLine := by
    rw [← l]
    rcases sq with sq | sq
    · exact sqL_len sq hl
    · exact sqT_len sq hl
  have hz2 : a.length ≤ 16777216 := by rw [← sizeLine_eq]; exact hz
  refine ⟨d, vs, by rw [e1], sq, ((a.length : Nat) : Int), by rw [l], by omega, by omega, q _ F1 H1 s1 ?_ (by rw [upto_len]; exact hz)⟩
  rw [upto_eq]
  exact tw_range 0 _
theorem rl_len {α : Type} {T : Ty α} : ∀ K F H v (a : List α), Same F H → (rLst T).rel K F H v a → ∃ q vs, v = .ref q ∧ (SqL K H q vs ∨ SqT K H q vs) ∧ vs.length = a.length := fun K F H v a s ⟨p, vs, e, q, r⟩ => ⟨p, vs, e, .inl q, r.len⟩
theorem tt_len {α : Type} {T : Ty α} : ∀ K F H v (a : List α), Same F H → (tTup T).rl.rel K F H v a → ∃ q vs, v = .ref q ∧ (SqL K H q vs ∨ SqT K H q vs) ∧ vs.length = a.length := fun K F H v a s ⟨p, vs, e, q, r⟩ => ⟨p, vs, e, .inr (seqT s q), r.len⟩
end

/-! ### targets -/
/-- what a target makes of the slots, for a thing a -/
def WG (X : Cx) (B : Bs) (tg : Expr) {α : Type} (T : Ty α) (ix : List Nat) (f : α → List Slot → List Slot) : Prop :=
  ∀ σ F H ω Γ v a (Q : L2.St → Hp → Prop), EnvOk X.K B Γ σ F H ω → T.rel X.K F v a → (∀ σ' ω', (∀ j, j ∉ ix → σ'[j]? = σ[j]?) → σ'.length = σ.length → (∀ p, ω p = none → ω' p = none) → EnvOk X.K B (f a Γ) σ' F H ω' → Q σ' H) → sG X tg v σ H Q
theorem slot_iff {K : PySem.W.Frag} {F H : Hp} {S S' : Addr → Prop} {o : Option V} {s : Slot} (h : s.ok K F H S o) (k : ∀ a, S' a ↔ S a) : s.ok K F H S' o := by
  have e : S' = S := funext fun a => propext (k a)
  rw [e]
  exact h
theorem env_set {K : PySem.W.Frag} {Γ : List Slot} {σ : L2.St} {F H : Hp} {ω : Ow} {i : Nat} {v : V} {s : Slot} (e : EnvOk K B Γ σ F H ω) (hs : ∀ S, s.ok K F H S (some v)) : EnvOk K B (Γ.set i s) (σ.set i (some v)) F H (fun a => if ω a = some i then none else ω a) := by
  refine ⟨e.base, by rw [List.length_set, List.length_set, e.len], fun a j h => ?_, fun j t h => ?_⟩
  · by_cases c : ω a = some i
    · rw [if_pos c] at h; cases h
    · rw [if_neg c] at h
      exact e.own a j h
  · by_cases c : i = j
    · subst c
      by_cases hi : i < Γ.length
      · rw [List.getElem?_set_self hi] at h
        cases h
        rw [List.getElem?_set_self (by rw [e.len]; exact hi)]
        exact hs _
      · rw [List.getElem?_eq_none (by rw [List.length_set]; omega)] at h
        cases h
    · rw [List.getElem?_set_ne c] at h
      rw [List.getElem?_set_ne c]
      refine slot_iff (e.slot j t h) fun a => ?_
      constructor
      · intro q
        by_cases c2 : ω a = some i
        · rw [if_pos c2] at q; cases q
        · rw [if_neg c2] at q; exact q
      · intro q
        rw [if_neg (by rw [q]; exact fun z => c (Option.some.inj z).symm)]
        exact q
theorem wg_name (C : XC X N sc k E) (i : Nat) {x : Str} {pos : Pos} {α : Type} {T : Ty α} (hN : N[i]? = some x := by rfl) (hl : L2.Loc sc.raw x := by first | exact Or.inl rfl | exact Or.inr rfl) : WG X B (.Name x pos) T [i] (fun a Γ => Γ.set i (iS T a)) :=
  fun σ F H ω Γ v a Q en r q => ⟨_, pg_name (by rw [C.nm]; exact C.nd) (by rw [C.nm]; exact hN) (C.loc _ hl).1 (C.loc _ hl).2, q _ _ (fun j hj => by rw [List.getElem?_set_ne (fun z => hj (by simp [z]))]) (by rw [List.length_set]) (fun p hp => by simp [hp]) (env_set en fun _ => ⟨v, rfl, r⟩)⟩
/-- a place that is never read -/
theorem wg_t2 (C : XC X N sc k E) {t1 t2 : Expr} {α β : Type} {T : Ty α} {U : Ty β} {f : α → List Slot → List Slot} {g : β → List Slot → List Slot} {j : Nat} {pos : Pos} {ix1 ix2 : List Nat} (h1 : WG X B t1 T ix1 f) (h2 : WG X B t2 U ix2 g)
    (hn : (assignEach [t1, t2] X.env).length = 2 := by rfl) (hst : (assignEach [t1, t2] X.env).findIdx? (·.1) = none := by rfl) (ha : (assignEach (t1 :: [t2]) X.env).map (·.2) = assign t1 X.env :: (assignEach [t2] X.env).map (·.2) := by rfl)
    (hb : (assignEach (t2 :: []) X.env).map (·.2) = assign t2 X.env :: (assignEach [] X.env).map (·.2) := by rfl) : WG X B (.Tuple [t1, t2] j pos) (tT2 T U) (ix1 ++ ix2) (fun a Γ => g a.2 (f a.1 Γ)) := fun σ F H ω Γ v a Q en r q => by
  obtain ⟨p, v1, v2, e, sq, r1, r2⟩ := r
  refine ⟨_, pg_tup C.calm (pgs_cons pg_s (pgs_cons pg_s pgs_nil hb) ha) hn hst, ?_⟩
  refine ⟨p, [v1, v2], e, seqT en.fh sq, rfl, v1, [v2], rfl, h1 σ F H ω Γ v1 a.1 _ en r1 fun σ1 ω1 k1 l1 o1 en1 => ?_⟩
  exact ⟨v2, [], rfl, h2 σ1 F H ω1 _ v2 a.2 _ en1 r2 fun σ2 ω2 k2 l2 o2 en2 => ⟨rfl, q σ2 ω2 (fun j hj => by
    simp only [List.mem_append, not_or] at hj
    rw [k2 j hj.2, k1 j hj.1]) (l2.trans l1) (fun p hp => o2 p (o1 p hp)) en2⟩⟩
theorem wg_t3 (C : XC X N sc k E) {t1 t2 t3 : Expr} {α β γ : Type} {T : Ty α} {U : Ty β} {W : Ty γ} {f : α → List Slot → List Slot} {g : β → List Slot → List Slot} {h : γ → List Slot → List Slot} {j : Nat} {pos : Pos} {ix1 ix2 ix3 : List Nat} (h1 : WG X B t1 T ix1 f) (h2 : WG X B t2 U ix2 g) (h3 : WG X B t3 W ix3 h)
    (hn : (assignEach [t1, t2, t3] X.env).length = 3 := by rfl) (hst : (assignEach [t1, t2, t3] X.env).findIdx? (·.1) = none := by rfl) (ha : (assignEach (t1 :: [t2, t3]) X.env).map (·.2) = assign t1 X.env :: (assignEach [t2, t3] X.env).map (·.2) := by rfl)
    (hb : (assignEach (t2 :: [t3]) X.env).map (·.2) = assign t2 X.env :: (assignEach [t3] X.env).map (·.2) := by rfl) (hc : (assignEach (t3 :: []) X.env).map (·.2) = assign t3 X.env :: (assignEach [] X.env).map (·.2) := by rfl) :
    WG X B (.Tuple [t1, t2, t3] j pos) (tT3 T U W) (ix1 ++ (ix2 ++ ix3)) (fun a Γ => h a.2.2 (g a.2.1 (f a.1 Γ))) := fun σ F H ω Γ v a Q en r q => by
  obtain ⟨p, v1, v2, v3, e, sq, r1, r2, r3⟩ := r
  refine ⟨_, pg_tup C.calm (pgs_cons pg_s (pgs_cons pg_s (pgs_cons pg_s pgs_nil hc) hb) ha) hn hst, ?_⟩
  refine ⟨p, [v1, v2, v3], e, seqT en.fh sq, rfl, v1, [v2, v3], rfl, h1 σ F H ω Γ v1 a.1 _ en r1 fun σ1 ω1 k1 l1 o1 en1 => ?_⟩
  exact ⟨v2, [v3], rfl, h2 σ1 F H ω1 _ v2 a.2.1 _ en1 r2 fun σ2 ω2 k2 l2 o2 en2 => ⟨v3, [], rfl, h3 σ2 F H ω2 _ v3 a.2.2 _ en2 r3 fun σ3 ω3 k3 l3 o3 en3 => ⟨rfl, q σ3 ω3 (fun j hj => by
    simp only [List.mem_append, not_or] at hj
    rw [k3 j hj.2.2, k2 j hj.2.1, k1 j hj.1]) ((l3.trans l2).trans l1) (fun p hp => o3 p (o2 p (o1 p hp))) en3⟩⟩⟩
end SL

set_option Elab.async false
set_option linter.all false
set_option maxRecDepth 100000
set_option maxHeartbeats 2000000
/-! SLe: statements, loops, comprehensions. -/
namespace SL
open PySem PySem.Spec PyProof.Rows L2
variable {X : Cx} {N : List Str} {sc : Scp} {k : Nat} {E : XK} {B : Bs} {Γ : List Slot}

/-! ### blocks -/
theorem sK_cons {s : Stmt} {b : List Stmt} {bs : List (List Stmt)} {D : Ends} {σ : L2.St} {H : Hp} (h : sS X s { D with nx := sK X (b :: bs) D } σ H) : sK X ((s :: b) :: bs) D σ H := by
  obtain ⟨t, p, h⟩ := h
  refine ⟨_, pss_cons p pss_s, ?_⟩
  exact h
theorem sK_nil {bs : List (List Stmt)} {D : Ends} {σ : L2.St} {H : Hp} (h : sK X bs D σ H) : sK X ([] :: bs) D σ H := ⟨_, pss_nil, h⟩
section
variable {β : Type} {D : β → SOut} {b : List Stmt} {bs : List (List Stmt)} {m : Out β}
/-- the next block -/
theorem ws_pop (h : WS X E B Γ bs m D) : WS X E B Γ ([] :: bs) m D := fun σ F H ω En en q => sK_nil (h σ F H ω En en q)
/-- fewer facts -/
inductive Weak : List Slot → List Slot → Prop where
  | nil : Weak [] []
  | same {s : Slot} {Γ Δ : List Slot} : Weak Γ Δ → Weak (s :: Γ) (s :: Δ)
  | any {s : Slot} {Γ Δ : List Slot} : Weak Γ Δ → Weak (s :: Γ) (.any :: Δ)
theorem Weak.len {Γ Δ : List Slot} (h : Weak Γ Δ) : Γ.length = Δ.length := by
  induction h with
  | nil => rfl
  | same _ ih => rw [List.length_cons, List.length_cons, ih]
  | any _ ih => rw [List.length_cons, List.length_cons, ih]
theorem Weak.at {Γ Δ : List Slot} (h : Weak Γ Δ) : ∀ (j : Nat) (s : Slot), Δ[j]? = some s → s = .any ∨ Γ[j]? = some s := by
  induction h with
  | nil => intro j s e; simp at e
  | same _ ih =>
    intro j s e
    cases j with
    | zero => exact .inr e
    | succ j => simpa using ih j s (by simpa using e)
  | any _ ih =>
    intro j s e
    cases j with
    | zero => simp at e; exact .inl e.symm
    | succ j => simpa using ih j s (by simpa using e)
theorem EnvOk.weak {K : PySem.W.Frag} {Γ Δ : List Slot} {σ : L2.St} {F H : Hp} {ω : Ow} (e : EnvOk K B Γ σ F H ω) (w : Weak Γ Δ) : EnvOk K B Δ σ F H ω :=
  ⟨e.base, e.len.trans w.len, e.own, fun j s h => by
    rcases w.at j s h with q | q
    · rw [q]; trivial
    · exact e.slot j s q⟩
/-- the end of the blocks -/
theorem ws_end {b : β} {Δ : List Slot} (hD : D b = .nx Δ) (w : Weak Γ Δ) : WS X E B Γ [] (pure b) D := fun σ F H ω En en q => by
  have q1 : EndOk X.K B F En (D b) := q
  rw [hD] at q1
  exact q1 σ F H ω (Same.refl F) (en.weak w)
theorem ws_weak {Δ : List Slot} (w : Weak Γ Δ) (h : WS X E B Δ bs m D) : WS X E B Γ bs m D := fun σ F H ω En en q => h σ F H ω En (en.weak w) q
theorem WS.cast {m' : Out β} (h : WS X E B Γ bs m D) (q : m = m') : WS X E B Γ bs m' D := q ▸ h
/-- a statement, then the rest; or out of here -/
def Exits : SOut → Prop
  | .nx _ => False
  | _ => True
theorem ws_cons {γ : Type} {s : Stmt} {m1 : Out γ} {D1 : γ → SOut} {f : γ → Out β} (h1 : W1 X E B Γ s m1 D1)
    (h2 : ∀ c, (∃ Δ, D1 c = .nx Δ ∧ WS X E B Δ (b :: bs) (f c) D) ∨ (Exits (D1 c) ∧ ∃ r, f c = pure r ∧ D r = D1 c)) : WS X E B Γ ((s :: b) :: bs) (m1 >>= f) D := fun σ F H ω En en q => by
  refine sK_cons (h1 σ F H ω { En with nx := sK X (b :: bs) En } en (q.bind.imp fun c q => ?_))
  rcases h2 c with ⟨Δ, e, h⟩ | ⟨x, r, e, e2⟩
  · rw [e]
    exact fun σ' F' H' ω' s en' => h σ' F' H' ω' En en' (q.imp fun b z => z.up s)
  · rw [e] at q
    have q1 : EndOk X.K B F En (D r) := q
    rw [e2] at q1
    cases h : D1 c with
    | nx Γ => rw [h] at x; exact x.elim
    | bk Γ => rw [h] at q1; exact q1
    | rt α T a => rw [h] at q1; exact q1
    | ro α O a => rw [h] at q1; exact q1
theorem ws_seq {γ : Type} {s : Stmt} {m1 : Out γ} {Δ : γ → List Slot} {f : γ → Out β} (h1 : W1 X E B Γ s m1 (fun c => .nx (Δ c))) (h2 : ∀ c, WS X E B (Δ c) (b :: bs) (f c) D) : WS X E B Γ ((s :: b) :: bs) (m1 >>= f) D :=
  ws_cons h1 fun c => .inl ⟨_, rfl, h2 c⟩
/-- .. that changes nothing that is known -/
theorem w1_end {s : Stmt} {Δ : List Slot} {b : β} (h : W1 X E B Γ s (pure ()) (fun _ => .nx Δ)) (hD : D b = .nx Δ) : W1 X E B Γ s (pure b) D := fun σ F H ω En en q => h σ F H ω En en (by
  have q1 : EndOk X.K B F En (D b) := q
  rw [hD] at q1
  exact q1)
/-- if -/
theorem ws_if {c : Expr} {A C : List Stmt} {mc : Out Bool} {m1 m2 : Out β} {pos : Pos} (hc : WT X E B Γ c mc) (h1 : WS X E B Γ (A :: b :: bs) m1 D) (h2 : WS X E B Γ (C :: b :: bs) m2 D) :
    WS X E B Γ ((.If c A C pos :: b) :: bs) (mc >>= fun t => if t = true then m1 else m2) D := fun σ F H ω En en q => by
  refine sK_cons ⟨_, ps_if pt_s pss_s pss_s, ?_⟩
  refine hc σ F H ω _ en (q.bind.imp fun t q F1 H1 s1 => ?_)
  cases t with
  | true => exact h1 σ F1 H1 ω En (en.stp s1) (Post.imp q fun b z => EndOk.up z s1.ff)
  | false => exact h2 σ F1 H1 ω En (en.stp s1) (Post.imp q fun b z => EndOk.up z s1.ff)
theorem w1_if {c : Expr} {A C : List Stmt} {mc : Out Bool} {m1 m2 : Out β} {pos : Pos} (hc : WT X E B Γ c mc) (h1 : WS X E B Γ [A] m1 D) (h2 : WS X E B Γ [C] m2 D) :
    W1 X E B Γ (.If c A C pos) (mc >>= fun t => if t = true then m1 else m2) D := fun σ F H ω En en q => by
  refine ⟨_, ps_if pt_s pss_s pss_s, ?_⟩
  refine hc σ F H ω _ en (q.bind.imp fun t q F1 H1 s1 => ?_)
  cases t with
  | true => exact h1 σ F1 H1 ω En (en.stp s1) (Post.imp q fun b z => EndOk.up z s1.ff)
  | false => exact h2 σ F1 H1 ω En (en.stp s1) (Post.imp q fun b z => EndOk.up z s1.ff)
theorem ws_pass {pos : Pos} (h : WS X E B Γ (b :: bs) m D) : WS X E B Γ ((.Pass pos :: b) :: bs) m D := fun σ F H ω En en q => sK_cons ⟨_, ps_pass, h σ F H ω En en q⟩
/-- what is never come to -/
theorem ws_stuck : WS X E B Γ bs (Out.stuck : Out β) D := fun σ F H ω En en q => q.elim
/-- return -/
theorem ws_ret {e : Expr} {α : Type} {T : Ty α} {me : Out α} {g : α → β} {pos : Pos} (h : WE X E B Γ e T.rl me) (hD : ∀ a, D (g a) = .rt α T a) : WS X E B Γ ((.Return (some e) pos :: b) :: bs) (me >>= fun a => pure (g a)) D := fun σ F H ω En en q => by
  refine sK_cons ⟨_, ps_ret pe_s, ?_⟩
  refine h σ F H ω _ en (q.bind.imp fun a q v F1 H1 s1 r => ?_)
  have q1 : EndOk X.K B F En (D (g a)) := q
  rw [hD] at q1
  exact q1 v F1 H1 (en.base.stp s1) r
theorem ws_retO {e : Expr} {α : Type} {O : Own α} {me : Out α} {g : α → β} {pos : Pos} (h : WO X E B Γ e O me) (hD : ∀ a, D (g a) = .ro α O a) : WS X E B Γ ((.Return (some e) pos :: b) :: bs) (me >>= fun a => pure (g a)) D := fun σ F H ω En en q => by
  refine sK_cons ⟨_, ps_ret pe_s, ?_⟩
  refine h σ F H ω _ en (q.bind.imp fun a q v F1 H1 S s1 d r => ?_)
  have q1 : EndOk X.K B F En (D (g a)) := q
  rw [hD] at q1
  exact q1 v F1 H1 S (en.base.stp s1) (fun p hp => ⟨(d p hp).1, (d p hp).2.1, by
    cases e : B.H p with
    | none => rfl
    | some o => exact absurd (d p hp).2.2 (en.base.there p (by rw [e]; exact fun z => nomatch z))⟩) r
/-- an own thing of a slot handed back -/
theorem ws_retV (C : XC X N sc k E) (i : Nat) {x : Str} {p pos : Pos} {α : Type} {O : Own α} {a : α} {r : β} (hW : ∀ p, ¬ B.W p) (hD : D r = .ro α O a) (hΓ : Γ[i]? = some (.on α O a) := by rfl) (hN : N[i]? = some x := by rfl) (hv : Vis sc.sc x := by first | exact Or.inl rfl | exact Or.inr (Or.inl rfl) | exact Or.inr (Or.inr rfl))
    (hd : (x == ("__debug__" : Str)) = false := by decide) (hcd : (x == ("__classdict__" : Str)) = false := by decide) : WS X E B Γ ((.Return (some (.Name x p)) pos :: b) :: bs) (pure r) D := fun σ F H ω En en q => by
  refine sK_cons ⟨_, ps_ret (pv_ C hN hv hd hcd), ?_⟩
  obtain ⟨v, hs, rl⟩ := en.slot i _ hΓ
  have q1 : EndOk X.K B F En (D r) := q
  rw [hD] at q1
  refine ⟨v, join_some hs, q1 v F H _ en.base (fun p hp => ?_) rl⟩
  obtain ⟨z1, z2, z3⟩ := en.own p i hp
  exact ⟨z1, z2, z3.resolve_right (hW p)⟩
end

/-! ### stores -/
theorem env_setO {K : PySem.W.Frag} {Γ : List Slot} {σ : L2.St} {F H : Hp} {ω : Ow} {i : Nat} {v : V} {α : Type} {O : Own α} {a : α} {S : Addr → Prop} (e : EnvOk K B Γ σ F H ω) (d : ∀ p, S p → F p = none ∧ H p ≠ none ∧ ω p = none ∧ B.H p = none) (r : O.rel K F H S v a) :
    ∃ ω', EnvOk K B (Γ.set i (.on α O a)) (σ.set i (some v)) F H ω' := by
  classical
  refine ⟨fun p => if S p then some i else if ω p = some i then none else ω p, e.base, by rw [List.length_set, List.length_set, e.len], fun p j h => ?_, fun j t h => ?_⟩
  · by_cases c : S p
    · obtain ⟨d1, d2, d3, d4⟩ := d p c
      exact ⟨d1, d2, .inl d4⟩
    · simp only [if_neg c] at h
      by_cases c2 : ω p = some i
      · simp only [if_pos c2] at h; cases h
      · simp only [if_neg c2] at h
        exact e.own p j h
  · by_cases c : i = j
    · subst c
      by_cases hi : i < Γ.length
      · rw [List.getElem?_set_self hi] at h
        cases h
        rw [List.getElem?_set_self (by rw [e.len]; exact hi)]
        have es : (fun p => (if S p then some i else if ω p = some i then none else ω p) = some i) = S := funext fun p => propext (by
          by_cases c : S p
          · simp [c]
          · simp only [if_neg c]
            by_cases c2 : ω p = some i
            · simp [c2, c]
            · simp [c2, c])
        rw [es]
        exact ⟨v, rfl, r⟩
      · rw [List.getElem?_eq_none (by rw [List.length_set]; omega)] at h
        cases h
    · rw [List.getElem?_set_ne c] at h
      rw [List.getElem?_set_ne c]
      refine slot_iff (e.slot j t h) fun p => ?_
      by_cases cS : S p
      · simp only [if_pos cS]
        obtain ⟨_, _, d3, _⟩ := d p cS
        rw [d3]
        exact ⟨fun z => absurd (Option.some.inj z) c, fun z => nomatch z⟩
      · simp only [if_neg cS]
        by_cases c2 : ω p = some i
        · simp only [if_pos c2]
          rw [c2]
          exact ⟨(fun z => nomatch z), fun z => absurd (Option.some.inj z) c⟩
        · simp only [if_neg c2]
theorem new_ok {K : PySem.W.Frag} {Γ : List Slot} {σ : L2.St} {F H F' H' : Hp} {ω : Ow} {S : Addr → Prop} (e : EnvOk K B Γ σ F H ω) (s : Stp F H F' H') (d : ∀ p, S p → F' p = none ∧ H' p ≠ none ∧ H p = none) : ∀ p, S p → F' p = none ∧ H' p ≠ none ∧ ω p = none ∧ B.H p = none := fun p hp => by
  obtain ⟨d1, d2, d3⟩ := d p hp
  refine ⟨d1, d2, ?_, ?_⟩
  · cases h : ω p with
    | none => rfl
    | some i => exact absurd d3 (e.own p i h).2.1
  · cases h : B.H p with
    | none => rfl
    | some o => exact absurd d3 (e.base.there p (by rw [h]; exact fun z => nomatch z))
section
variable {β : Type} {D : β → SOut} {b : List Stmt} {bs : List (List Stmt)} {x : Str} {p pos : Pos} {e : Expr} {α : Type}
/-- x = e -/
theorem ws_set (C : XC X N sc k E) (i : Nat) {T : Ty α} {me : Out α} {f : α → Out β} (h : WE X E B Γ e T.rl me) (hr : ∀ a, WS X E B (Γ.set i (iS T a)) (b :: bs) (f a) D) (hN : N[i]? = some x := by rfl) (hl : L2.Loc sc.raw x := by first | exact Or.inl rfl | exact Or.inr rfl)
    (hs : swapsWith e (some (.Name x p)) pos.line X.env = pure false := by rfl) : WS X E B Γ ((.Assign [.Name x p] e pos :: b) :: bs) (me >>= f) D := fun σ F H ω En en q => by
  refine sK_cons ⟨_, ps_set (by rw [C.nm]; exact C.nd) (by rw [C.nm]; exact hN) (C.loc _ hl).1 pe_s hs (C.loc _ hl).2, ?_⟩
  refine h σ F H ω _ en (q.bind.imp fun a q v F1 H1 s1 r => ?_)
  exact hr a _ F1 H1 _ En (env_set (en.stp s1) fun S => ⟨v, rfl, r⟩) (q.imp fun b z => EndOk.up z s1.ff)
theorem ws_setO (C : XC X N sc k E) (i : Nat) {O : Own α} {me : Out α} {f : α → Out β} (h : WO X E B Γ e O me) (hr : ∀ a, WS X E B (Γ.set i (.on α O a)) (b :: bs) (f a) D) (hN : N[i]? = some x := by rfl) (hl : L2.Loc sc.raw x := by first | exact Or.inl rfl | exact Or.inr rfl)
    (hs : swapsWith e (some (.Name x p)) pos.line X.env = pure false := by rfl) : WS X E B Γ ((.Assign [.Name x p] e pos :: b) :: bs) (me >>= f) D := fun σ F H ω En en q => by
  refine sK_cons ⟨_, ps_set (by rw [C.nm]; exact C.nd) (by rw [C.nm]; exact hN) (C.loc _ hl).1 pe_s hs (C.loc _ hl).2, ?_⟩
  refine h σ F H ω _ en (q.bind.imp fun a q v F1 H1 S s1 d r => ?_)
  obtain ⟨ω', en'⟩ := env_setO (i := i) (en.stp s1) (new_ok en s1 d) r
  exact hr a _ F1 H1 _ En en' (q.imp fun b z => EndOk.up z s1.ff)
/-- a, b = e; (a, b), c = e -/
theorem ws_asg (C : XC X N sc k E) {tg : Expr} {T : Ty α} {g : α → List Slot → List Slot} {me : Out α} {f : α → Out β} (h : WE X E B Γ e T.rl me) {ix : List Nat} (hg : WG X B tg T ix g) (hr : ∀ a, WS X E B (g a Γ) (b :: bs) (f a) D)
    (hs : swapsWithSole [tg] e pos.line X.env = pure false := by rfl) (hw : swappedStores [tg] e X.env = pure none := by rfl) (h1 : (assignEach [tg] X.env).map (·.2) = [assign tg X.env] := by rfl) : WS X E B Γ ((.Assign [tg] e pos :: b) :: bs) (me >>= f) D := fun σ F H ω En en q => by
  refine sK_cons ⟨_, ps_asg pe_s pg_s hs hw h1, ?_⟩
  refine h σ F H ω _ en (q.bind.imp fun a q v F1 H1 s1 r => ?_)
  exact hg σ F1 H1 ω Γ v a _ (en.stp s1) r fun σ' ω' _ _ _ en' => hr a σ' F1 H1 ω' En en' (q.imp fun b z => EndOk.up z s1.ff)
/-- an own thing becomes fixed -/
theorem env_fz {K : PySem.W.Frag} {Γ : List Slot} {σ : L2.St} {F H : Hp} {ω : Ow} {i : Nat} {O : Own α} {T : Ty α} {a : α} (z : Fz O T) (hW : ∀ p, ¬ B.W p) (e : EnvOk K B Γ σ F H ω) (h : Γ[i]? = some (.on α O a)) :
    EnvOk K B (Γ.set i (iS T a)) σ (frz F H (fun p => ω p = some i)) H (fun p => if ω p = some i then none else ω p) ∧ Same F (frz F H (fun p => ω p = some i)) := by
  have dj : ∀ p, ω p = some i → F p = none := fun p hp => (e.own p i hp).1
  have sm := frz_same (H := H) dj
  refine ⟨⟨⟨e.base.ff.trans sm, frz_sub e.base.fh, e.base.hh, e.base.there, fun p h1 h2 => ?_⟩, by rw [List.length_set, e.len], fun p j hj => ?_, fun j t hj => ?_⟩, sm⟩
  · by_cases c : ω p = some i
    · have z3 := (e.own p i c).2.2.resolve_right (hW p)
      exact absurd z3 h2
    · rw [frz_out c]
      exact e.base.old p h1 h2
  · by_cases c : ω p = some i
    · rw [if_pos c] at hj; cases hj
    · rw [if_neg c] at hj
      obtain ⟨z1, z2, z3⟩ := e.own p j hj
      exact ⟨by rw [frz_out c]; exact z1, z2, z3⟩
  · by_cases c : i = j
    · subst c
      have hi : i < Γ.length := (List.getElem?_eq_some_iff.mp h).1
      rw [List.getElem?_set_self hi] at hj
      cases hj
      obtain ⟨v, hv, r⟩ := e.slot i _ h
      exact ⟨v, hv, z K F H _ v a dj r⟩
    · rw [List.getElem?_set_ne c] at hj
      refine slot_iff (Slot.keep (e.slot j t hj) sm fun p _ => rfl) fun p => ?_
      by_cases c2 : ω p = some i
      · simp only [if_pos c2]
        rw [c2]
        exact ⟨(fun z => nomatch z), fun z => absurd (Option.some.inj z) c⟩
      · simp only [if_neg c2]
theorem ws_fz (i : Nat) {O : Own α} {T : Ty α} {a : α} {m : Out β} (z : Fz O T) (hW : ∀ p, ¬ B.W p) (hΓ : Γ[i]? = some (.on α O a)) (h : WS X E B (Γ.set i (iS T a)) bs m D) : WS X E B Γ bs m D := fun σ F H ω En en q => by
  obtain ⟨e1, e2⟩ := env_fz z hW en hΓ
  exact h σ _ H _ En e1 (q.imp fun b z => EndOk.up z e2)
end
end SL

set_option Elab.async false
set_option linter.all false
set_option maxRecDepth 100000
set_option maxHeartbeats 2000000
/-! SLf: own lists changed; loops; comprehensions. -/
namespace SL
open PySem PySem.Spec PyProof.Rows L2
variable {X : Cx} {N : List Str} {sc : Scp} {k : Nat} {E : XK} {B : Bs} {Γ : List Slot}

/-! ### own lists changed -/
/-- the object at p of the own thing in slot i is written -/
theorem env_wr {K : PySem.W.Frag} {Γ : List Slot} {σ : L2.St} {F H : Hp} {ω : Ow} {i : Nat} {α β : Type} {O : Own α} {O' : Own β} {a : α} {a' : β} {p : Addr} {o : HO} {v : V} (e : EnvOk K B Γ σ F H ω) (h : Γ[i]? = some (.on α O a)) (hv : σ[i]? = some (some v)) (hp : ω p = some i)
    (r : O'.rel K F (upd H p o) (fun q => ω q = some i) v a') : EnvOk K B (Γ.set i (.on β O' a')) σ F (upd H p o) ω := by
  obtain ⟨z1, z2, z3⟩ := e.own p i hp
  refine ⟨⟨e.base.ff, fun q u hq => ?_, fun q u hq hw => ?_, fun q hq => ?_, e.base.old⟩, by rw [List.length_set, e.len], fun q j hj => ?_, fun j t hj => ?_⟩
  · rw [upd_ne (fun z => by rw [z, z1] at hq; cases hq)]
    exact e.base.fh q u hq
  · have ne : q ≠ p := fun z => by
      subst z
      rcases z3 with z3 | z3
      · rw [z3] at hq; cases hq
      · exact hw z3
    rw [upd_ne ne]
    exact e.base.hh q u hq hw
  · by_cases c : q = p
    · subst c
      rw [upd_same]
      exact fun z => nomatch z
    · rw [upd_ne c]
      exact e.base.there q hq
  · obtain ⟨y1, y2, y3⟩ := e.own q j hj
    refine ⟨y1, ?_, y3⟩
    by_cases c : q = p
    · subst c
      rw [upd_same]
      exact fun z => nomatch z
    · rw [upd_ne c]
      exact y2
  · by_cases c : i = j
    · subst c
      have hi : i < Γ.length := (List.getElem?_eq_some_iff.mp h).1
      rw [List.getElem?_set_self hi] at hj
      cases hj
      exact ⟨v, by rw [hv] <;> rfl, r⟩
    · rw [List.getElem?_set_ne c] at hj
      refine Slot.keep (e.slot j t hj) (Same.refl F) fun q hq => ?_
      exact upd_ne fun z => by
        rw [z, hp] at hq
        exact c (Option.some.inj hq)
/-- the own list in slot i as it stands -/
theorem own_lst {K : PySem.W.Frag} {Γ : List Slot} {σ : L2.St} {F H : Hp} {ω : Ow} {i : Nat} {α : Type} {T : Ty α} {a : List α} (e : EnvOk K B Γ σ F H ω) (h : Γ[i]? = some (.on _ (oLst T) a)) :
    ∃ p vs, σ[i]? = some (some (.ref p)) ∧ ω p = some i ∧ H p = some (.lst vs) ∧ Fa2 (T.rel K F) vs a := by
  obtain ⟨v, hv, p, vs, rfl, hp, hH, r⟩ := e.slot i _ h
  exact ⟨p, vs, join_some hv, hp, hH, r⟩
theorem env_lst {K : PySem.W.Frag} {Γ : List Slot} {σ : L2.St} {F H : Hp} {ω : Ow} {i : Nat} {α : Type} {T : Ty α} {a a' : List α} {p : Addr} {vs' : List V} (e : EnvOk K B Γ σ F H ω) (h : Γ[i]? = some (.on _ (oLst T) a)) (hv : σ[i]? = some (some (.ref p))) (hp : ω p = some i)
    (r : Fa2 (T.rel K F) vs' a') : EnvOk K B (Γ.set i (.on _ (oLst T) a')) σ F (upd H p (.lst vs')) ω := env_wr e h hv hp ⟨p, vs', rfl, hp, upd_same, r⟩
def appO {α : Type} (xs : List α) (x : α) : Out (List α) := if xs.length < 16777216 then pure (xs ++ [x]) else .stuck
/-- the place that an index means, of n -/
def ixO (n : Nat) (i : Int) : Out Nat := match ixN n i with
  | some j => pure j
  | none => .stuck
def setO {α : Type} (xs : List α) (i : Int) (x : α) : Out (List α) := ixO xs.length i >>= fun j => pure (xs.set j x)
section
variable {β : Type} {D : β → SOut} {b : List Stmt} {bs : List (List Stmt)} {x : Str} {p p2 p3 pos : Pos} {e e2 : Expr} {α : Type} {T : Ty α} {xs : List α} {me : Out α} {mi : Out Int} {f : List α → Out β}
/-- x.append(e) -/
theorem ws_app (C : XC X N sc k E) (i : Nat) (h : WE X E B Γ e T.rl me) (hr : ∀ a, WS X E B (Γ.set i (.on _ (oLst T) a)) (b :: bs) (f a) D) (hΓ : Γ[i]? = some (.on _ (oLst T) xs) := by rfl) (hN : N[i]? = some x := by rfl) (hv : Vis sc.sc x := by first | exact Or.inl rfl | exact Or.inr (Or.inl rfl) | exact Or.inr (Or.inr rfl))
    (hd : (x == ("__debug__" : Str)) = false := by decide) (hcd : (x == ("__classdict__" : Str)) = false := by decide) (hbase : attributeBase (.Name x p) "append" X.env (eval (.Name x p) X.env) = eval (.Name x p) X.env := by rfl)
    (hfew : ((backTo p3 (starEach (e :: []) X.env)).all (fun x => !x.1) && (backToKw p3 (keywordEach [] X.env)).all (fun x => x.1.isSome) && decide ((e :: []).length + ([] : List Keyword).length + (if ([] : List Keyword).isEmpty then 0 else 1) < 30)) = true := by rfl)
    (hline : (p2.endLine == p3.line) = true := by rfl) (hs : starEach (e :: []) X.env = (false, eval e X.env) :: starEach [] X.env := by rfl) (hsw : swapsWith (.Call (.Attribute (.Name x p) "append" p2) [e] [] p3) none pos.line X.env = pure false := by rfl) :
    WS X E B Γ ((.Expr (.Call (.Attribute (.Name x p) "append" p2) [e] [] p3) pos :: b) :: bs) (me >>= fun a => appO xs a >>= f) D := fun σ F H ω En en q => by
  refine sK_cons ⟨_, ps_expr (pe_bm PySem.F.plainAttrs_list PySem.F.slot_list_append PySem.F.type_list_append mt_append (pv_ C hN hv hd hcd) (pa_cons pe_s pa_nil hs) hbase hfew hline hs) hsw, ?_⟩
  obtain ⟨l, vs, hσ, hl, hH, r⟩ := own_lst en hΓ
  refine ⟨_, hσ, .inl ⟨rfl, _, SqL.of hH⟩, h σ F H ω _ en (q.bind.imp fun a q v F1 H1 s1 ra => ?_)⟩
  unfold appO at q
  by_cases c : xs.length < 16777216
  · rw [if_pos c] at q
    have en1 := en.stp s1
    have r1 : Fa2 (T.rel X.K F1) vs xs := r.imp fun _ _ => T.mono s1.ff
    refine ⟨l, vs, v, rfl, rfl, s1.hh _ _ hH, by rw [r.len, sizeLine_eq]; exact c, ?_⟩
    exact hr _ σ F1 _ ω En (env_lst en1 hΓ hσ hl (r1.app (.cons ra .nil))) (Post.imp q fun b z => EndOk.up z s1.ff)
  · rw [if_neg c] at q
    exact q.elim
/-- x[i] = e -/
theorem ws_setI (C : XC X N sc k E) (i : Nat) {ei : Expr} (h : WE X E B Γ e T.rl me) (hi : WE X E B Γ ei tInt.rl mi) (hr : ∀ a, WS X E B (Γ.set i (.on _ (oLst T) a)) (b :: bs) (f a) D) (hΓ : Γ[i]? = some (.on _ (oLst T) xs) := by rfl) (hN : N[i]? = some x := by rfl)
    (hv : Vis sc.sc x := by first | exact Or.inl rfl | exact Or.inr (Or.inl rfl) | exact Or.inr (Or.inr rfl)) (hd : (x == ("__debug__" : Str)) = false := by decide) (hcd : (x == ("__classdict__" : Str)) = false := by decide)
    (ha : ∀ v, assign (.Subscript (.Name x p) ei p2) X.env v = (do
      let ov ← holding [v] (eval (.Name x p) X.env)
      let iv ← holding [v, ov] (eval ei X.env)
      standAt p2
      holding [v, ov, iv] (setItem ov iv v)
      release [v, ov, iv] []) := by intro _; rfl)
    (hs : swapsWithSole [.Subscript (.Name x p) ei p2] e pos.line X.env = pure false := by rfl) (hw : swappedStores [.Subscript (.Name x p) ei p2] e X.env = pure none := by rfl) (h1 : (assignEach [.Subscript (.Name x p) ei p2] X.env).map (·.2) = [assign (.Subscript (.Name x p) ei p2) X.env] := by rfl) :
    WS X E B Γ ((.Assign [.Subscript (.Name x p) ei p2] e pos :: b) :: bs) (me >>= fun a => mi >>= fun j => setO xs j a >>= f) D := fun σ F H ω En en q => by
  refine sK_cons ⟨_, ps_asg pe_s (pg_sub (pv_ C hN hv hd hcd) pe_s set_list ha) hs hw h1, ?_⟩
  refine h σ F H ω _ en (q.bind.imp fun a q v F1 H1 s1 ra => ?_)
  have en1 := en.stp s1
  obtain ⟨l, vs, hσ, hl, hH, r⟩ := own_lst en1 hΓ
  refine ⟨_, hσ, hi σ F1 H1 ω _ en1 (q.bind.imp fun j q v2 F2 H2 s2 rj => ?_)⟩
  have en2 := en1.stp s2
  have r2 : Fa2 (T.rel X.K F2) vs xs := r.imp fun _ _ => T.mono s2.ff
  unfold setO ixO at q
  cases hj : ixN xs.length j with
  | none => rw [hj] at q; exact q.elim
  | some n =>
    rw [hj] at q
    refine ⟨l, vs, j, n, rfl, rj, s2.hh _ _ hH, by rw [r.len]; exact hj, ?_⟩
    exact hr _ σ F2 _ ω En (env_lst en2 hΓ hσ hl (r2.set (T.mono s2.ff ra) n)) (Post.imp q fun b z => EndOk.up z (s1.ff.trans s2.ff))
end

/-! ### for -/
section
variable {tg iter : Expr} {body : List Stmt} {pos : Pos} {α β ρ S : Type} {T : Ty α} {mi : Out (List α)} {g : α → List Slot → List Slot}
theorem for_core (C : XC X N sc k E) (hit : WI X E B Γ tg iter T mi) {σ : L2.St} {F H : Hp} {ω : Ow} {En : Ends} (en : EnvOk X.K B Γ σ F H ω) (Iv : List α → L2.St → Hp → Hp → Prop)
    (hw : Post mi (fun xs => ∀ F1 H1, Stp F H F1 H1 → Iv xs σ F1 H1) (RB X.K B E)) (hF : ∀ xs σ F H, Iv xs σ F H → Same F H) (hB : ∀ xs σ F H, Iv xs σ F H → SW B.W B.F B.H F H) (hd : ∀ σ F H, Iv [] σ F H → En.nx σ H)
    (hs : ∀ a rest σ F H x F' H', Iv (a :: rest) σ F H → Stp F H F' H' → T.rel X.K F' x a → ∀ Nx : L2.St → Hp → Prop, (∀ σ3 F3 H3, Same F' F3 → Iv rest σ3 F3 H3 → Nx σ3 H3) → sG X tg x σ H' fun σ2 H2 => sSs X body { En with nx := Nx, ct := Nx, bk := En.nx } σ2 H2)
    (hf : ∀ x, foldedSetIterable iter X.env x = pure x) : sS X (.For tg iter body [] pos) En σ H := by
  refine ⟨_, ps_for C.own C.calm pi_s pg_s pss_s hf, ?_⟩
  refine hit σ F H ω _ en (hw.imp fun xs q J F1 H1 s1 tw hl => ?_)
  refine ⟨fun i m σ' H' => m = xs.length - i ∧ i ≤ xs.length ∧ ∃ F', Same F1 F' ∧ Iv (xs.drop i) σ' F' H', ⟨xs.length, by simp, Nat.zero_le _, F1, Same.refl F1, by rw [List.drop_zero]; exact q F1 H1 s1⟩, ?_⟩
  rintro i m σ' H' ⟨rfl, hi, F', sf, iv⟩
  by_cases hlt : i < xs.length
  · have ed : xs.drop i = xs[i] :: xs.drop (i + 1) := by rw [List.drop_eq_getElem_cons hlt]
    rw [ed] at iv
    have fh := hF _ _ _ _ iv
    have fb := hB _ _ _ _ iv
    refine .inr ⟨tw.goes i F' H' hlt sf fh fb False.elim, fun σ3 H3 => ∃ F3, Same F1 F3 ∧ Iv (xs.drop (i + 1)) σ3 F3 H3, fun σ3 H3 ⟨F3, s3, v3⟩ => ⟨xs.length - (i + 1), by omega, rfl, hlt, F3, s3, v3⟩, fun x H2 y => ?_⟩
    obtain ⟨F2, a, s2, ea, ra⟩ := tw.yields i F' H' x H2 hlt sf fh fb False.elim y
    have ea2 : xs[i] = a := by
      rw [List.getElem?_eq_getElem hlt] at ea
      exact Option.some.inj ea
    rw [ea2] at iv
    exact hs a _ σ' F' H' x F2 H2 iv s2 ra _ fun σ3 F3 H3 s3 v3 => ⟨F3, (sf.trans s2.ff).trans s3, v3⟩
  · have e : i = xs.length := by omega
    subst e
    rw [List.drop_length] at iv
    exact .inl ⟨tw.stops F' H' sf (hF _ _ _ _ iv) (hB _ _ _ _ iv) False.elim, hd _ _ _ iv⟩
/-- no way out of the loop -/
def forO {α S : Type} (f : S → α → Out S) : List α → S → Out S
  | [], s => pure s
  | x :: xs, s => f s x >>= fun s' => forO f xs s'
theorem w1_for (C : XC X N sc k E) (hit : WI X E B Γ tg iter T mi) {ix : List Nat} (hg : WG X B tg T ix g) {Δ : S → List Slot} {s0 : S} {f : S → α → Out S} (w0 : Weak Γ (Δ s0)) (hb : ∀ s a, WS X E B (g a (Δ s)) [body] (f s a) (fun s' => .nx (Δ s')))
    (hf : ∀ x, foldedSetIterable iter X.env x = pure x := by intro _; rfl) : W1 X E B Γ (.For tg iter body [] pos) (mi >>= fun xs => forO f xs s0) (fun s => .nx (Δ s)) := fun σ F H ω En en q => by
  refine for_core C hit en (fun xs σ' F' H' => Same F F' ∧ ∃ s ω', EnvOk X.K B (Δ s) σ' F' H' ω' ∧ Post (forO f xs s) (fun s => EndOk X.K B F En (.nx (Δ s))) (RB X.K B E))
    (q.bind.imp fun xs q F1 H1 s1 => ⟨s1.ff, s0, ω, (en.stp s1).weak w0, q⟩) (fun xs σ' F' H' ⟨_, s, ω', en', _⟩ => en'.fh) (fun xs σ' F' H' ⟨_, s, ω', en', _⟩ => en'.base) (fun σ' F' H' ⟨sf, s, ω', en', q⟩ => ?_) (fun a rest σ' F' H' x F2 H2 ⟨sf, s, ω', en', q⟩ s2 ra Nx hN => ?_) hf
  · have q1 : EndOk X.K B F En (.nx (Δ s)) := q
    exact q1 σ' F' H' ω' sf en'
  · refine hg σ' F2 H2 ω' (Δ s) x a _ (en'.stp s2) ra fun σ3 ω3 _ _ _ en3 => ?_
    have h := hb s a σ3 F2 H2 ω3 { En with nx := Nx, ct := Nx, bk := En.nx } en3 (Post.imp (Post.bind q) fun s' q σ4 F4 H4 ω4 s4 en4 => hN σ4 F4 H4 s4 ⟨(sf.trans s2.ff).trans s4, s', ω4, en4, q⟩)
    exact h
/-- with a return within -/
inductive Step (ρ S : Type) where
  | nx (s : S)
  | rt (r : ρ)
def forR {α S ρ : Type} (f : S → α → Out (Step ρ S)) : List α → S → Out (Step ρ S)
  | [], s => pure (.nx s)
  | x :: xs, s => f s x >>= fun t => match t with
    | .nx s' => forR f xs s'
    | .rt r => pure (.rt r)
/-- the ends of a loop's turn that may return -/
def DR {ρ S : Type} (Δ : S → List Slot) (Rt : ρ → SOut) : Step ρ S → SOut
  | .nx s => .nx (Δ s)
  | .rt r => Rt r
theorem w1_forR (C : XC X N sc k E) (hit : WI X E B Γ tg iter T mi) {ix : List Nat} (hg : WG X B tg T ix g) {Δ : S → List Slot} {s0 : S} {f : S → α → Out (Step ρ S)} {Rt : ρ → SOut} (w0 : Weak Γ (Δ s0)) (hb : ∀ s a, WS X E B (g a (Δ s)) [body] (f s a) (DR Δ Rt))
    (hR : ∀ r, (∃ α T a, Rt r = .rt α T a) ∨ (∃ α O a, Rt r = .ro α O a)) (hf : ∀ x, foldedSetIterable iter X.env x = pure x := by intro _; rfl) : W1 X E B Γ (.For tg iter body [] pos) (mi >>= fun xs => forR f xs s0) (DR Δ Rt) := fun σ F H ω En en q => by
  refine for_core C hit en (fun xs σ' F' H' => Same F F' ∧ ∃ s ω', EnvOk X.K B (Δ s) σ' F' H' ω' ∧ Post (forR f xs s) (fun t => EndOk X.K B F En (DR Δ Rt t)) (RB X.K B E))
    (q.bind.imp fun xs q F1 H1 s1 => ⟨s1.ff, s0, ω, (en.stp s1).weak w0, q⟩) (fun xs σ' F' H' ⟨_, s, ω', en', _⟩ => en'.fh) (fun xs σ' F' H' ⟨_, s, ω', en', _⟩ => en'.base) (fun σ' F' H' ⟨sf, s, ω', en', q⟩ => ?_) (fun a rest σ' F' H' x F2 H2 ⟨sf, s, ω', en', q⟩ s2 ra Nx hN => ?_) hf
  · have q1 : EndOk X.K B F En (.nx (Δ s)) := q
    exact q1 σ' F' H' ω' sf en'
  · refine hg σ' F2 H2 ω' (Δ s) x a _ (en'.stp s2) ra fun σ3 ω3 _ _ _ en3 => ?_
    have h := hb s a σ3 F2 H2 ω3 { En with nx := Nx, ct := Nx, bk := En.nx } en3 (Post.imp (Post.bind q) fun t q => ?_)
    · exact h
    · cases t with
      | nx s' => exact fun σ4 F4 H4 ω4 s4 en4 => hN σ4 F4 H4 s4 ⟨(sf.trans s2.ff).trans s4, s', ω4, en4, q⟩
      | rt r =>
        have q1 : EndOk X.K B F En (Rt r) := q
        show EndOk X.K B F2 _ (Rt r)
        rcases hR r with ⟨α, T, a, e⟩ | ⟨α, O, a, e⟩
        · rw [e] at q1 ⊢
          exact q1
        · rw [e] at q1 ⊢
          exact q1
/-- with a break within -/
inductive Brk (S : Type) where
  | go (s : S)
  | out (s : S)
def forB {α S : Type} (f : S → α → Out (Brk S)) : List α → S → Out S
  | [], s => pure s
  | x :: xs, s => f s x >>= fun t => match t with
    | .go s' => forB f xs s'
    | .out s' => pure s'
def DB {S : Type} (Δ : S → List Slot) : Brk S → SOut
  | .go s => .nx (Δ s)
  | .out s => .bk (Δ s)
theorem w1_forB (C : XC X N sc k E) (hit : WI X E B Γ tg iter T mi) {ix : List Nat} (hg : WG X B tg T ix g) {Δ : S → List Slot} {s0 : S} {f : S → α → Out (Brk S)} (w0 : Weak Γ (Δ s0)) (hb : ∀ s a, WS X E B (g a (Δ s)) [body] (f s a) (DB Δ))
    (hf : ∀ x, foldedSetIterable iter X.env x = pure x := by intro _; rfl) : W1 X E B Γ (.For tg iter body [] pos) (mi >>= fun xs => forB f xs s0) (fun s => .nx (Δ s)) := fun σ F H ω En en q => by
  refine for_core C hit en (fun xs σ' F' H' => Same F F' ∧ ∃ s ω', EnvOk X.K B (Δ s) σ' F' H' ω' ∧ Post (forB f xs s) (fun s => EndOk X.K B F En (.nx (Δ s))) (RB X.K B E))
    (q.bind.imp fun xs q F1 H1 s1 => ⟨s1.ff, s0, ω, (en.stp s1).weak w0, q⟩) (fun xs σ' F' H' ⟨_, s, ω', en', _⟩ => en'.fh) (fun xs σ' F' H' ⟨_, s, ω', en', _⟩ => en'.base) (fun σ' F' H' ⟨sf, s, ω', en', q⟩ => ?_) (fun a rest σ' F' H' x F2 H2 ⟨sf, s, ω', en', q⟩ s2 ra Nx hN => ?_) hf
  · have q1 : EndOk X.K B F En (.nx (Δ s)) := q
    exact q1 σ' F' H' ω' sf en'
  · refine hg σ' F2 H2 ω' (Δ s) x a _ (en'.stp s2) ra fun σ3 ω3 _ _ _ en3 => ?_
    have h := hb s a σ3 F2 H2 ω3 { En with nx := Nx, ct := Nx, bk := En.nx } en3 (Post.imp (Post.bind q) fun t q => ?_)
    · exact h
    · cases t with
      | go s' => exact fun σ4 F4 H4 ω4 s4 en4 => hN σ4 F4 H4 s4 ⟨(sf.trans s2.ff).trans s4, s', ω4, en4, q⟩
      | out s' =>
        have q1 : EndOk X.K B F En (.nx (Δ s')) := q
        exact fun σ4 F4 H4 ω4 s4 en4 => q1 σ4 F4 H4 ω4 ((sf.trans s2.ff).trans s4) en4
theorem ws_break {S' : Type} {D : S' → SOut} {b : List Stmt} {bs : List (List Stmt)} {pos : Pos} {r : S'} {Δ : List Slot} (hD : D r = .bk Δ) (w : Weak Γ Δ) : WS X E B Γ ((.Break pos :: b) :: bs) (pure r) D := fun σ F H ω En en q => by
  refine sK_cons ⟨_, ps_break, ?_⟩
  have q1 : EndOk X.K B F En (D r) := q
  rw [hD] at q1
  exact q1 σ F H ω (Same.refl F) (en.weak w)
end

/-! ### while -/
section
variable {c : Expr} {body : List Stmt} {pos : Pos} {S ρ : Type}
def whileO {S : Type} (c : S → Out Bool) (f : S → Out S) : Nat → S → Out S
  | 0, _ => .stuck
  | n + 1, s => c s >>= fun t => if t = true then f s >>= fun s' => whileO c f n s' else pure s
theorem w1_while (C : XC X N sc k E) {Δ : S → List Slot} {s0 : S} {mc : S → Out Bool} {f : S → Out S} (n : Nat) (w0 : Weak Γ (Δ s0)) (hc : ∀ s, WT X E B (Δ s) c (mc s)) (hb : ∀ s, WS X E B (Δ s) [body] (f s) (fun s' => .nx (Δ s'))) :
    W1 X E B Γ (.While c body [] pos) (whileO mc f n s0) (fun s => .nx (Δ s)) := fun σ F H ω En en q => by
  refine ⟨_, ps_while C.own pt_s pss_s, ?_⟩
  refine ⟨fun m σ' H' => ∃ s F' ω', Same F F' ∧ EnvOk X.K B (Δ s) σ' F' H' ω' ∧ Post (whileO mc f m s) (fun s => EndOk X.K B F En (.nx (Δ s))) (RB X.K B E), ⟨n, s0, F, ω, Same.refl F, en.weak w0, q⟩, ?_⟩
  rintro m σ' H' ⟨s, F', ω', sf, en', q⟩
  cases m with
  | zero => exact q.elim
  | succ m =>
    refine hc s σ' F' H' ω' _ en' (Post.imp (Post.bind q) fun t q F1 H1 s1 => ?_)
    have en1 := en'.stp s1
    cases t with
    | false =>
      have q1 : EndOk X.K B F En (.nx (Δ s)) := q
      exact q1 σ' F1 H1 ω' (sf.trans s1.ff) en1
    | true =>
      refine ⟨_, fun σ2 H2 h => h, ?_⟩
      have h := hb s σ' F1 H1 ω' { En with nx := fun σ2 H2 => ∃ m', m' < m + 1 ∧ ∃ s F' ω', Same F F' ∧ EnvOk X.K B (Δ s) σ2 F' H2 ω' ∧ Post (whileO mc f m' s) (fun s => EndOk X.K B F En (.nx (Δ s))) (RB X.K B E), ct := fun σ2 H2 => ∃ m', m' < m + 1 ∧ ∃ s F' ω', Same F F' ∧ EnvOk X.K B (Δ s) σ2 F' H2 ω' ∧ Post (whileO mc f m' s) (fun s => EndOk X.K B F En (.nx (Δ s))) (RB X.K B E), bk := En.nx } en1
        (Post.imp (Post.bind q) fun s' q σ4 F4 H4 ω4 s4 en4 => ⟨m, Nat.lt_succ_self m, s', F4, ω4, (sf.trans s1.ff).trans s4, en4, q⟩)
      exact h
def whileR {S ρ : Type} (c : S → Out Bool) (f : S → Out (Step ρ S)) : Nat → S → Out (Step ρ S)
  | 0, _ => .stuck
  | n + 1, s => c s >>= fun t => if t = true then f s >>= fun t => match t with
      | .nx s' => whileR c f n s'
      | .rt r => pure (.rt r)
    else pure (.nx s)
theorem w1_whileR (C : XC X N sc k E) {Δ : S → List Slot} {s0 : S} {mc : S → Out Bool} {f : S → Out (Step ρ S)} {Rt : ρ → SOut} (n : Nat) (w0 : Weak Γ (Δ s0)) (hc : ∀ s, WT X E B (Δ s) c (mc s)) (hb : ∀ s, WS X E B (Δ s) [body] (f s) (DR Δ Rt))
    (hR : ∀ r, (∃ α T a, Rt r = .rt α T a) ∨ (∃ α O a, Rt r = .ro α O a)) : W1 X E B Γ (.While c body [] pos) (whileR mc f n s0) (DR Δ Rt) := fun σ F H ω En en q => by
  refine ⟨_, ps_while C.own pt_s pss_s, ?_⟩
  refine ⟨fun m σ' H' => ∃ s F' ω', Same F F' ∧ EnvOk X.K B (Δ s) σ' F' H' ω' ∧ Post (whileR mc f m s) (fun t => EndOk X.K B F En (DR Δ Rt t)) (RB X.K B E), ⟨n, s0, F, ω, Same.refl F, en.weak w0, q⟩, ?_⟩
  rintro m σ' H' ⟨s, F', ω', sf, en', q⟩
  cases m with
  | zero => exact q.elim
  | succ m =>
    refine hc s σ' F' H' ω' _ en' (Post.imp (Post.bind q) fun t q F1 H1 s1 => ?_)
    have en1 := en'.stp s1
    cases t with
    | false =>
      have q1 : EndOk X.K B F En (.nx (Δ s)) := q
      exact q1 σ' F1 H1 ω' (sf.trans s1.ff) en1
    | true =>
      refine ⟨_, fun σ2 H2 h => h, ?_⟩
      have h := hb s σ' F1 H1 ω' { En with nx := fun σ2 H2 => ∃ m', m' < m + 1 ∧ ∃ s F' ω', Same F F' ∧ EnvOk X.K B (Δ s) σ2 F' H2 ω' ∧ Post (whileR mc f m' s) (fun t => EndOk X.K B F En (DR Δ Rt t)) (RB X.K B E), ct := fun σ2 H2 => ∃ m', m' < m + 1 ∧ ∃ s F' ω', Same F F' ∧ EnvOk X.K B (Δ s) σ2 F' H2 ω' ∧ Post (whileR mc f m' s) (fun t => EndOk X.K B F En (DR Δ Rt t)) (RB X.K B E), bk := En.nx } en1
        (Post.imp (Post.bind q) fun t q => ?_)
      · exact h
      · cases t with
        | nx s' => exact fun σ4 F4 H4 ω4 s4 en4 => ⟨m, Nat.lt_succ_self m, s', F4, ω4, (sf.trans s1.ff).trans s4, en4, q⟩
        | rt r =>
          have q1 : EndOk X.K B F En (Rt r) := q
          show EndOk X.K B F1 _ (Rt r)
          rcases hR r with ⟨α, T, a, e⟩ | ⟨α, O, a, e⟩
          · rw [e] at q1 ⊢
            exact q1
          · rw [e] at q1 ⊢
            exact q1
end
end SL

set_option Elab.async false
set_option linter.all false
set_option maxRecDepth 100000
set_option maxHeartbeats 2000000
/-! SLg: comprehensions. -/
namespace SL
open PySem PySem.Spec PyProof.Rows L2
variable {X : Cx} {N : List Str} {sc : Scp} {k : Nat} {E : XK} {B : Bs} {Γ : List Slot}

abbrev bx (X : Cx) (scope : Scope) (s : Shared) (H : Hp) (Cc : Addr) (cl : List (Str × Addr)) (fp : List Addr) : Cx := X.blk s H scope (compEnvC scope cl Cc X.env) fp
/-- in all blocks of the scope -/
def uE (X : Cx) (scope : Scope) (e : Expr) : TE := fun σ H Q => ∀ s H' Cc cl fp, sE (bx X scope s H' Cc cl fp) e σ H Q
def uG (X : Cx) (scope : Scope) (e : Expr) : TG := fun v σ H Q => ∀ s H' Cc cl fp, sG (bx X scope s H' Cc cl fp) e v σ H Q
def sTs (X : Cx) (ifs : List Expr) : TT := fun σ H Q => ∃ t, PTs X ifs t ∧ t σ H Q
def uT (X : Cx) (scope : Scope) (ifs : List Expr) : TT := fun σ H Q => ∀ s H' Cc cl fp, sTs (bx X scope s H' Cc cl fp) ifs σ H Q
def uI (X : Cx) (scope : Scope) (tg iter : Expr) : TI := fun σ H R => ∀ s H' Cc cl fp, sI (bx X scope s H' Cc cl fp) tg iter σ H R
theorem pe_u {scope : Scope} {e : Expr} (s : Shared) (H' : Hp) (Cc : Addr) (cl : List (Str × Addr)) (fp : List Addr) : PE (bx X scope s H' Cc cl fp) e (uE X scope e) := ⟨fun pins s' σ H Q I h => pe_s.run pins s' σ H Q I (h s H' Cc cl fp)⟩
theorem pg_u {scope : Scope} {e : Expr} (s : Shared) (H' : Hp) (Cc : Addr) (cl : List (Str × Addr)) (fp : List Addr) : PG (bx X scope s H' Cc cl fp) e (uG X scope e) := ⟨fun pins s' σ H v u Q I r h => pg_s.run pins s' σ H v u Q I r (h s H' Cc cl fp)⟩
theorem pts_s {ifs : List Expr} : PTs X ifs (sTs X ifs) := ⟨fun pins s σ H Q I ⟨_, p, h⟩ => p.run pins s σ H Q I h⟩
theorem pts_u {scope : Scope} {ifs : List Expr} (s : Shared) (H' : Hp) (Cc : Addr) (cl : List (Str × Addr)) (fp : List Addr) : PTs (bx X scope s H' Cc cl fp) ifs (uT X scope ifs) := ⟨fun pins s' σ H Q I h => pts_s.run pins s' σ H Q I (h s H' Cc cl fp)⟩
theorem pi_u {scope : Scope} {tg iter : Expr} (s : Shared) (H' : Hp) (Cc : Addr) (cl : List (Str × Addr)) (fp : List Addr) : PI (bx X scope s H' Cc cl fp) tg iter (uI X scope tg iter) := ⟨fun pins s' σ H R I h => pi_s.run pins s' σ H R I (h s H' Cc cl fp)⟩
theorem relS_loc {scope s0 : Scope} {x : Str} (h : L2.Loc scope x) : L2.Loc (relS scope s0) x := by
  rcases h with h | h
  · exact .inl (lookup_relS_keep (by decide) h)
  · exact .inr (lookup_relS_keep (by decide) h)
/-- a block's context -/
theorem xc_blk (C : XC X N sc k E) {scope : Scope} (s : Shared) (H' : Hp) (Cc : Addr) (cl : List (Str × Addr)) (fp : List Addr) : XC (bx X scope s H' Cc cl fp) N ⟨relS scope sc.sc, scope⟩ k E0 := by
  refine ⟨C.nm, C.nd, ?_, C.calm, C.room, C.gd, passL, PassesOwn.never, fun x h => ?_⟩
  · show relS scope X.env.scope = _
    rw [C.scp]
  · refine ⟨relS_loc h, ?_⟩
    rcases h with h | h
    · exact .inr (lookup_relS_keep (by decide) h)
    · refine .inl ?_
      show (scope.names.lookup x == some .cell) = true
      rw [h] <;> rfl
theorem fre_blk {scope : Scope} (Z : Fre X.mg) (s : Shared) (H' : Hp) (Cc : Addr) (cl : List (Str × Addr)) (fp : List Addr) : Fre (bx X scope s H' Cc cl fp).mg := Z
/-- tests of a clause -/
def WTs (X : Cx) (E : XK) (B : Bs) (Γ : List Slot) (ifs : List Expr) (m : Out Bool) : Prop :=
  ∀ σ F H ω Q, EnvOk X.K B Γ σ F H ω → Post m (fun b => ∀ F' H', Stp F H F' H' → Q b H') (RB X.K B E) → sTs X ifs σ H Q
theorem wts_nil : WTs X E B Γ [] (pure true) := fun σ F H ω Q en p => ⟨_, pts_nil, p F H (Stp.refl en.fh)⟩
theorem wts_one {c : Expr} {m : Out Bool} (h : WT X E B Γ c m) : WTs X E B Γ [c] m := fun σ F H ω Q en p => ⟨_, pts_one pt_s, h σ F H ω Q en p⟩

/-! ### the block's slots -/
def wipeS (Γ : List Slot) : List Nat → List Slot
  | [] => Γ
  | v :: vs => (wipeS Γ vs).set v .any
theorem wipeS_at {Γ : List Slot} : ∀ {vs : List Nat} {j : Nat} {s : Slot}, (wipeS Γ vs)[j]? = some s → s = .any ∨ (Γ[j]? = some s ∧ j ∉ vs)
  | [], j, s, h => .inr ⟨h, by simp⟩
  | v :: vs, j, s, h => by
    unfold wipeS at h
    by_cases c : v = j
    · subst c
      by_cases hv : v < (wipeS Γ vs).length
      · rw [List.getElem?_set_self hv] at h
        exact .inl (Option.some.inj h).symm
      · rw [List.getElem?_eq_none (by simpa using hv)] at h
        cases h
    · rw [List.getElem?_set_ne c] at h
      rcases wipeS_at h with q | ⟨q1, q2⟩
      · exact .inl q
      · exact .inr ⟨q1, by simp only [List.mem_cons, not_or]; exact ⟨fun z => c z.symm, q2⟩⟩
theorem wipeS_len {Γ : List Slot} : ∀ vs : List Nat, (wipeS Γ vs).length = Γ.length
  | [] => rfl
  | v :: vs => by unfold wipeS; rw [List.length_set, wipeS_len vs]
theorem env_wipe {K : PySem.W.Frag} {Γ : List Slot} {σ : L2.St} {F H : Hp} {ω : Ow} (e : EnvOk K B Γ σ F H ω) (vs : List Nat) : EnvOk K B (wipeS Γ vs) (wipe σ vs) F H ω :=
  ⟨e.base, by rw [wipe_length, wipeS_len, e.len], e.own, fun j s h => by
    rcases wipeS_at h with q | ⟨q1, q2⟩
    · rw [q]; trivial
    · rw [wipe_out q2]
      exact e.slot j s q1⟩
theorem wipe_in {σ : L2.St} {i : Nat} : ∀ {vs : List Nat}, i ∈ vs → i < σ.length → (wipe σ vs)[i]? = some none
  | [], h, _ => by simp at h
  | v :: vs, h, hi => by
    unfold wipe
    by_cases c : v = i
    · subst c
      rw [List.getElem?_set_self (by rw [wipe_length]; exact hi)]
    · rw [List.getElem?_set_ne c]
      exact wipe_in ((List.mem_cons.mp h).resolve_left fun z => c z.symm) hi
theorem wipe_eq {σ τ : L2.St} {vs ix : List Nat} (h : ∀ j, j ∉ ix → σ[j]? = τ[j]?) (hl : σ.length = τ.length) (hs : ∀ j ∈ ix, j ∈ vs) : wipe σ vs = wipe τ vs := by
  refine List.ext_getElem? fun j => ?_
  by_cases c : j ∈ vs
  · by_cases hj : j < σ.length
    · rw [wipe_in c hj, wipe_in c (by rw [← hl]; exact hj)]
    · rw [List.getElem?_eq_none (by rw [wipe_length]; omega), List.getElem?_eq_none (by rw [wipe_length]; omega)]
  · rw [wipe_out c, wipe_out c]
    exact h j fun z => c (hs j z)
theorem wipe_wipe (σ : L2.St) (vs : List Nat) : wipe (wipe σ vs) vs = wipe σ vs := by
  refine List.ext_getElem? fun j => ?_
  by_cases c : j ∈ vs
  · by_cases hj : j < σ.length
    · rw [wipe_in c (by rw [wipe_length]; exact hj), wipe_in c hj]
    · rw [List.getElem?_eq_none (by rw [wipe_length, wipe_length]; omega), List.getElem?_eq_none (by rw [wipe_length]; omega)]
  · rw [wipe_out c]

/-! ### what a comprehension makes -/
def compO {α β : Type} (f : α → Out (Option β)) : List α → Out (List β)
  | [] => pure []
  | x :: xs => match f x with
    | .ok none => compO f xs
    | .ok (some b) => (match compO f xs with
      | .ok bs => .ok (b :: bs)
      | _ => .stuck)
    | _ => .stuck
def mapO {α β : Type} (f : α → Out β) : List α → Out (List β)
  | [] => pure []
  | x :: xs => match f x with
    | .ok b => (match mapO f xs with
      | .ok bs => .ok (b :: bs)
      | _ => .stuck)
    | _ => .stuck
theorem comp_map {α β : Type} (f : α → Out β) : ∀ xs : List α, compO (fun x => f x >>= fun b => pure (some b)) xs = mapO f xs
  | [] => rfl
  | x :: xs => by
    unfold compO mapO
    rw [comp_map f xs]
    cases f x <;> rfl
theorem Stp.updN {F H F' H' : Hp} {D : Addr} {o : HO} (s : Stp F H F' H') (h1 : H D = none) (h2 : F' D = none) : Stp F H F' (upd H' D o) :=
  ⟨s.ff, fun a u e => by
    rw [upd_ne (fun z => by rw [z, h2] at e; cases e)]
    exact s.fh a u e, fun a u e => by
    rw [upd_ne (fun z => by rw [z, h1] at e; cases e)]
    exact s.hh a u e, s.old⟩
/-- the tests and the element, an Option -/
def ifO {β : Type} (c : Out Bool) (m : Out β) : Out (Option β) := c >>= fun t => if t = true then m >>= fun b => pure (some b) else pure none
theorem ifO_none {β : Type} {c : Out Bool} {m : Out β} (h : ifO c m = .ok none) : c = .ok false := by
  unfold ifO at h
  cases c with
  | ok t =>
    cases t with
    | false => rfl
    | true =>
      cases m <;> cases h
  | err x => cases h
  | stuck => cases h
theorem ifO_some {β : Type} {c : Out Bool} {m : Out β} {b : β} (h : ifO c m = .ok (some b)) : c = .ok true ∧ m = .ok b := by
  unfold ifO at h
  cases c with
  | ok t =>
    cases t with
    | false => cases h
    | true =>
      cases m with
      | ok a => cases h; exact ⟨rfl, rfl⟩
      | err x => cases h
      | stuck => cases h
  | err x => cases h
  | stuck => cases h
section
variable {tg iter elt : Expr} {ifs : List Expr} {scope : Scope} {own : List (Str × Nat)} {pos p : Pos} {α β : Type} {T : Ty α} {U : Ty β} {mi : Out (List α)} {ix : List Nat} {g : α → List Slot → List Slot} {mc : α → Out Bool} {m : α → Out β}
/-- the reading of a comprehension -/
theorem lc_read (C : XC X N sc k E) (hit : WIs X E B Γ tg iter T mi) (hix : ∀ j ∈ ix, j ∈ own.map (·.2)) (hg : ∀ s H' Cc cl fp, WG (bx X scope s H' Cc cl fp) B tg T ix g)
    (hc : ∀ s H' Cc cl fp a, WTs (bx X scope s H' Cc cl fp) E0 B (g a (wipeS Γ (own.map (·.2)))) ifs (mc a)) (he : ∀ s H' Cc cl fp a, WE (bx X scope s H' Cc cl fp) E0 B (g a (wipeS Γ (own.map (·.2)))) elt U.rl (m a))
    {σ : L2.St} {F H : Hp} {ω : Ow} {Q : VK} (en : EnvOk X.K B Γ σ F H ω) (po : Post (mi >>= compO fun a => ifO (mc a) (m a)) (fun bs => ∀ v F' H' S, Stp F H F' H' → (∀ p, S p → F' p = none ∧ H' p ≠ none ∧ H p = none) → (oLst U).rel X.K F' H' S v bs → Q v H') (RB X.K B E)) :
    tLc (sI X tg iter) (uG X scope tg) (uT X scope ifs) (uE X scope elt) (own.map (·.2)) σ H Q := by
  refine hit σ F H ω _ en (po.bind.imp fun xs q J F1 H1 s1 tw hl D hD => ?_)
  have hD0 : H D = none := s1.hh.free hD
  have hF1 : F1 D = none := s1.fh.free hD
  obtain ⟨bs, hb, q⟩ : ∃ bs, compO (fun a => ifO (mc a) (m a)) xs = .ok bs ∧ ∀ v F' H' S, Stp F H F' H' → (∀ p, S p → F' p = none ∧ H' p ≠ none ∧ H p = none) → (oLst U).rel X.K F' H' S v bs → Q v H' := by
    cases e : compO (fun a => ifO (mc a) (m a)) xs with
    | ok bs => rw [e] at q; exact ⟨bs, rfl, q⟩
    | err x =>
      exfalso
      have : ∀ ys : List α, compO (fun a => ifO (mc a) (m a)) ys ≠ .err x := by
        intro ys
        induction ys with
        | nil => intro z; cases z
        | cons y ys ih =>
          intro z
          unfold compO at z
          split at z
          · exact ih z
          · split at z <;> cases z
          · cases z
      exact this xs e
    | stuck => rw [e] at q; exact q.elim
  have enw := env_wipe (en.stp s1) (own.map (·.2))
  refine ⟨fun i mm H' => mm = xs.length - i ∧ i ≤ xs.length ∧ ∃ F' vs acc rest, Stp F1 H1 F' H' ∧ F' D = none ∧ H' D = some (.lst vs) ∧ Fa2 (U.rel X.K F') vs acc ∧ acc.length ≤ i ∧ compO (fun a => ifO (mc a) (m a)) (xs.drop i) = .ok rest ∧ bs = acc ++ rest,
    ⟨xs.length, by simp, Nat.zero_le _, F1, [], [], bs, Stp.newH s1.fh hD, hF1, upd_same, .nil, Nat.le_refl _, by rw [List.drop_zero]; exact hb, rfl⟩, ?_⟩
  rintro i mm H' ⟨rfl, hi, F', vs, acc, rest, s', hF', hH', ra, hacc, hr, ebs⟩
  by_cases hlt : i < xs.length
  · refine .inr ⟨tw.goes i F' H' hlt s'.ff s'.fh ((en.base.stp s1).stp s') (fun _ => s'.hh), _, fun H2 h => h, fun x H2 y => ?_⟩
    obtain ⟨F2, a, s2, ea, rx⟩ := tw.yields i F' H' x H2 hlt s'.ff s'.fh ((en.base.stp s1).stp s') (fun _ => s'.hh) y
    have ed : xs.drop i = a :: xs.drop (i + 1) := by
      rw [List.getElem?_eq_getElem hlt] at ea
      rw [List.drop_eq_getElem_cons hlt, Option.some.inj ea]
    rw [ed] at hr
    have s3 := s'.trans s2
    have hF2 : F2 D = none := s2.old D hF' (by rw [hH']; exact fun z => nomatch z)
    have hH2 : H2 D = some (.lst vs) := s2.hh _ _ hH'
    intro sb Hb Cb clb fpb
    refine hg sb Hb Cb clb fpb _ F2 H2 ω _ x a _ (enw.stp s3) rx fun σ2 ω2 k2 l2 _ en2 => ?_
    refine ⟨(wipe_eq k2 l2 hix).trans (wipe_wipe _ _), ?_⟩
    intro sc2 Hc2 Cc2 clc2 fpc2
    -- what the item gives
    have hcase : (ifO (mc a) (m a) = .ok none ∧ compO (fun a => ifO (mc a) (m a)) (xs.drop (i + 1)) = .ok rest) ∨ ∃ b r2, ifO (mc a) (m a) = .ok (some b) ∧ compO (fun a => ifO (mc a) (m a)) (xs.drop (i + 1)) = .ok r2 ∧ rest = b :: r2 := by
      unfold compO at hr
      cases e : ifO (mc a) (m a) with
      | ok o =>
        rw [e] at hr
        cases o with
        | none => exact .inl ⟨rfl, hr⟩
        | some b =>
          cases e2 : compO (fun a => ifO (mc a) (m a)) (xs.drop (i + 1)) with
          | ok r2 =>
            simp only [e2] at hr
            cases hr
            exact .inr ⟨b, r2, rfl, rfl, rfl⟩
          | err x => simp only [e2] at hr; cases hr
          | stuck => simp only [e2] at hr; cases hr
      | err x => rw [e] at hr; cases hr
      | stuck => rw [e] at hr; cases hr
    rcases hcase with ⟨e1, e2⟩ | ⟨b, r2, e1, e2, e3⟩
    · have hm := ifO_none e1
      refine hc sc2 Hc2 Cc2 clc2 fpc2 a σ2 F2 H2 ω2 _ en2 ?_
      rw [hm]
      intro F3 H3 s4
      show if false = true then _ else _
      rw [if_neg Bool.false_ne_true]
      exact ⟨xs.length - (i + 1), by omega, rfl, hlt, F3, vs, acc, rest, s3.trans s4, s4.old D hF2 (by rw [hH2]; exact fun z => nomatch z), s4.hh _ _ hH2, ra.imp fun _ _ => U.mono (s2.trans s4).ff, by omega, e2, ebs⟩
    · obtain ⟨hm, hv⟩ := ifO_some e1
      refine hc sc2 Hc2 Cc2 clc2 fpc2 a σ2 F2 H2 ω2 _ en2 ?_
      rw [hm]
      intro F3 H3 s4
      show if true = true then _ else _
      rw [if_pos rfl]
      intro se He Ce cle fpe
      refine he se He Ce cle fpe a σ2 F3 H3 ω2 _ (en2.stp s4) ?_
      rw [hv]
      intro v F4 H4 s5 rv
      have s6 := (s3.trans s4).trans s5
      have hF4 : F4 D = none := (s4.trans s5).old D hF2 (by rw [hH2]; exact fun z => nomatch z)
      have hH4 : H4 D = some (.lst vs) := (s4.trans s5).hh _ _ hH2
      refine ⟨vs, hH4, by rw [ra.len]; omega, ?_⟩
      exact ⟨xs.length - (i + 1), by omega, rfl, hlt, F4, vs ++ [v], acc ++ [b], r2, s6.updN hD hF4, hF4, upd_same, (ra.imp fun _ _ => U.mono ((s2.trans s4).trans s5).ff).app (.cons rv .nil), by rw [List.length_append, List.length_singleton]; omega, e2, by rw [ebs, e3, List.append_assoc] <;> rfl⟩
  · have e : i = xs.length := by omega
    subst e
    rw [List.drop_length] at hr
    have er : rest = [] := by cases hr; rfl
    subst er
    rw [List.append_nil] at ebs
    subst ebs
    refine .inl ⟨tw.stops F' H' s'.ff s'.fh ((en.base.stp s1).stp s') (fun _ => s'.hh), ?_⟩
    exact q (.ref D) F' H' (fun a => a = D) (s1.trans s') (fun a e => by
      subst e
      exact ⟨hF', (by rw [hH']; exact fun z => nomatch z), hD0⟩) ⟨D, vs, rfl, rfl, hH', ra⟩
theorem blk_ok (C : XC X N sc k E) (h : blkC N sc.sc scope own = true) : BlkOk X.N X.env.scope scope own := by
  rw [C.nm, C.scp]
  exact blkOk_by h
/-- [elt for tg in iter if c] -/
theorem wo_lcif (C : XC X N sc k E) (own : List (Str × Nat)) (hk : blkC N sc.sc scope own = true) (hit : WIs X E B Γ tg iter T mi) (hix : ∀ j ∈ ix, j ∈ own.map (·.2)) (hg : ∀ s H' Cc cl fp, XC (bx X scope s H' Cc cl fp) N ⟨relS scope sc.sc, scope⟩ k E0 → WG (bx X scope s H' Cc cl fp) B tg T ix g)
    (hc : ∀ s H' Cc cl fp a, XC (bx X scope s H' Cc cl fp) N ⟨relS scope sc.sc, scope⟩ k E0 → WTs (bx X scope s H' Cc cl fp) E0 B (g a (wipeS Γ (own.map (·.2)))) ifs (mc a)) (he : ∀ s H' Cc cl fp a, XC (bx X scope s H' Cc cl fp) N ⟨relS scope sc.sc, scope⟩ k E0 → WE (bx X scope s H' Cc cl fp) E0 B (g a (wipeS Γ (own.map (·.2)))) elt U.rl (m a))
    (hs : ∀ x, foldedSetIterable iter X.env x = pure x := by intro _; rfl) : WO X E B Γ (.ListComp elt [⟨tg, iter, ifs, 0⟩] scope pos) (oLst U) (mi >>= compO fun a => ifO (mc a) (m a)) := fun σ F H ω Q en po =>
  ⟨_, pe_lc C.calm (by rw [C.nm]; exact C.nd) pi_s (blk_ok C hk) pg_u pts_u pe_u hs, lc_read C hit hix (fun s H' Cc cl fp => hg s H' Cc cl fp (xc_blk C s H' Cc cl fp)) (fun s H' Cc cl fp a => hc s H' Cc cl fp a (xc_blk C s H' Cc cl fp)) (fun s H' Cc cl fp a => he s H' Cc cl fp a (xc_blk C s H' Cc cl fp)) en po⟩
theorem ifO_true {β : Type} (m : Out β) : ifO (pure true) m = (m >>= fun b => pure (some b)) := rfl
/-- [elt for tg in iter] -/
theorem wo_lc (C : XC X N sc k E) (own : List (Str × Nat)) (hk : blkC N sc.sc scope own = true) (hit : WIs X E B Γ tg iter T mi) (hix : ∀ j ∈ ix, j ∈ own.map (·.2)) (hg : ∀ s H' Cc cl fp, XC (bx X scope s H' Cc cl fp) N ⟨relS scope sc.sc, scope⟩ k E0 → WG (bx X scope s H' Cc cl fp) B tg T ix g)
    (he : ∀ s H' Cc cl fp a, XC (bx X scope s H' Cc cl fp) N ⟨relS scope sc.sc, scope⟩ k E0 → WE (bx X scope s H' Cc cl fp) E0 B (g a (wipeS Γ (own.map (·.2)))) elt U.rl (m a))
    (hs : ∀ x, foldedSetIterable iter X.env x = pure x := by intro _; rfl) : WO X E B Γ (.ListComp elt [⟨tg, iter, [], 0⟩] scope pos) (oLst U) (mi >>= fun xs => mapO m xs) := by
  have h := wo_lcif (pos := pos) (mc := fun _ => pure true) C own hk hit hix hg (fun _ _ _ _ _ _ _ => wts_nil) he hs
  have e : (fun xs : List α => mapO m xs) = compO fun a => ifO (pure true) (m a) := funext fun xs => (comp_map m xs).symm
  rw [e]
  exact h
/-- name = [..] on one line, the name a local -/
theorem ws_lcif {b : List Stmt} {bs : List (List Stmt)} {γ : Type} {D : γ → SOut} {f : List β → Out γ} {y : Str} {py spos : Pos} (C : XC X N sc k E) (i : Nat) (own : List (Str × Nat)) (hk : blkC N sc.sc scope own = true) (hit : WIs X E B Γ tg iter T mi) (hix : ∀ j ∈ ix, j ∈ own.map (·.2)) (hg : ∀ s H' Cc cl fp, XC (bx X scope s H' Cc cl fp) N ⟨relS scope sc.sc, scope⟩ k E0 → WG (bx X scope s H' Cc cl fp) B tg T ix g)
    (hc : ∀ s H' Cc cl fp a, XC (bx X scope s H' Cc cl fp) N ⟨relS scope sc.sc, scope⟩ k E0 → WTs (bx X scope s H' Cc cl fp) E0 B (g a (wipeS Γ (own.map (·.2)))) ifs (mc a)) (he : ∀ s H' Cc cl fp a, XC (bx X scope s H' Cc cl fp) N ⟨relS scope sc.sc, scope⟩ k E0 → WE (bx X scope s H' Cc cl fp) E0 B (g a (wipeS Γ (own.map (·.2)))) elt U.rl (m a))
    (hr : ∀ a, WS X E B (Γ.set i (.on _ (oLst U) a)) (b :: bs) (f a) D) (hN : N[i]? = some y := by rfl) (hyl : sc.sc.names.lookup y = some .local := by rfl) (hkd : sc.sc.kind = .function := by rfl) (hln : (py.line == pos.line) = true := by rfl)
    (hna : (scope.names.any fun (n, k) => n == y && (k == .local || k == .cell)) = false := by decide +kernel) (hs : ∀ x, foldedSetIterable iter X.env x = pure x := by intro _; rfl) :
    WS X E B Γ ((.Assign [.Name y py] (.ListComp elt [⟨tg, iter, ifs, 0⟩] scope pos) spos :: b) :: bs) ((mi >>= compO fun a => ifO (mc a) (m a)) >>= f) D := fun σ F H ω En en q => by
  have hyl' : X.env.scope.names.lookup y = some .local := by rw [C.scp]; exact hyl
  refine sK_cons ⟨_, ps_setLc (i := i) C.calm (by rw [C.nm]; exact C.nd) (by rw [C.nm]; exact hN) hyl' (sw_true (by rw [C.scp]; exact hkd) hyl' hln hna) pi_s (blk_ok C hk) pg_u pts_u pe_u hs, ?_⟩
  refine lc_read C hit hix (fun s H' Cc cl fp => hg s H' Cc cl fp (xc_blk C s H' Cc cl fp)) (fun s H' Cc cl fp a => hc s H' Cc cl fp a (xc_blk C s H' Cc cl fp)) (fun s H' Cc cl fp a => he s H' Cc cl fp a (xc_blk C s H' Cc cl fp)) en (q.bind.imp fun a q v F1 H1 S s1 d r => ?_)
  obtain ⟨ω', en'⟩ := env_setO (i := i) (en.stp s1) (new_ok en s1 d) r
  exact hr a _ F1 H1 _ En en' (q.imp fun b z => EndOk.up z s1.ff)
theorem ws_lc {b : List Stmt} {bs : List (List Stmt)} {γ : Type} {D : γ → SOut} {f : List β → Out γ} {y : Str} {py spos : Pos} (C : XC X N sc k E) (i : Nat) (own : List (Str × Nat)) (hk : blkC N sc.sc scope own = true) (hit : WIs X E B Γ tg iter T mi) (hix : ∀ j ∈ ix, j ∈ own.map (·.2)) (hg : ∀ s H' Cc cl fp, XC (bx X scope s H' Cc cl fp) N ⟨relS scope sc.sc, scope⟩ k E0 → WG (bx X scope s H' Cc cl fp) B tg T ix g)
    (he : ∀ s H' Cc cl fp a, XC (bx X scope s H' Cc cl fp) N ⟨relS scope sc.sc, scope⟩ k E0 → WE (bx X scope s H' Cc cl fp) E0 B (g a (wipeS Γ (own.map (·.2)))) elt U.rl (m a))
    (hr : ∀ a, WS X E B (Γ.set i (.on _ (oLst U) a)) (b :: bs) (f a) D) (hN : N[i]? = some y := by rfl) (hyl : sc.sc.names.lookup y = some .local := by rfl) (hkd : sc.sc.kind = .function := by rfl) (hln : (py.line == pos.line) = true := by rfl)
    (hna : (scope.names.any fun (n, k) => n == y && (k == .local || k == .cell)) = false := by decide +kernel) (hs : ∀ x, foldedSetIterable iter X.env x = pure x := by intro _; rfl) :
    WS X E B Γ ((.Assign [.Name y py] (.ListComp elt [⟨tg, iter, [], 0⟩] scope pos) spos :: b) :: bs) ((mi >>= fun xs => mapO m xs) >>= f) D := by
  have h := ws_lcif (pos := pos) (spos := spos) (py := py) (mc := fun _ => pure true) C i own hk hit hix hg (fun _ _ _ _ _ _ _ => wts_nil) he hr hN hyl hkd hln hna hs
  have e : (fun xs : List α => mapO m xs) = compO fun a => ifO (pure true) (m a) := funext fun xs => (comp_map m xs).symm
  rw [e]
  exact h
end
end SL
namespace SL
open PySem PySem.Spec PyProof.Rows L2
variable {X : Cx} {N : List Str} {sc : Scp} {k : Nat} {E : XK} {B : Bs} {Γ : List Slot}
/-! ### other words for the same outcome -/
theorem WO.cast {e : Expr} {α : Type} {O : Own α} {m m' : Out α} (h : WO X E B Γ e O m) (q : m = m') : WO X E B Γ e O m' := q ▸ h
theorem WT.cast {e : Expr} {m m' : Out Bool} (h : WT X E B Γ e m) (q : m = m') : WT X E B Γ e m' := q ▸ h
theorem WTs.cast {e : List Expr} {m m' : Out Bool} (h : WTs X E B Γ e m) (q : m = m') : WTs X E B Γ e m' := q ▸ h
theorem WI.cast {tg e : Expr} {α : Type} {T : Ty α} {m m' : Out (List α)} (h : WI X E B Γ tg e T m) (q : m = m') : WI X E B Γ tg e T m' := q ▸ h
theorem ws_ret0 {β : Type} {D : β → SOut} {b : List Stmt} {bs : List (List Stmt)} {e : Expr} {T : Ty β} {me : Out β} {pos : Pos} (h : WE X E B Γ e T.rl me) (hD : ∀ a, D a = .rt β T a) : WS X E B Γ ((.Return (some e) pos :: b) :: bs) me D := by
  have q : (me >>= fun a => pure a) = me := by cases me <;> rfl
  have := ws_ret (b := b) (bs := bs) (pos := pos) (g := fun a => a) h hD
  rw [q] at this
  exact this
theorem ws_retO0 {β : Type} {D : β → SOut} {b : List Stmt} {bs : List (List Stmt)} {e : Expr} {O : Own β} {me : Out β} {pos : Pos} (h : WO X E B Γ e O me) (hD : ∀ a, D a = .ro β O a) : WS X E B Γ ((.Return (some e) pos :: b) :: bs) me D := by
  have q : (me >>= fun a => pure a) = me := by cases me <;> rfl
  have := ws_retO (b := b) (bs := bs) (pos := pos) (g := fun a => a) h hD
  rw [q] at this
  exact this
end SL

set_option Elab.async false
set_option linter.all false
set_option maxRecDepth 100000
set_option maxHeartbeats 2000000
/-! SLh: further rules. -/
namespace SL
open PySem PySem.Spec PyProof.Rows L2
variable {X : Cx} {N : List Str} {sc : Scp} {k : Nat} {E : XK} {B : Bs} {Γ : List Slot}
/-- the end of a block behind which nothing lies -/
theorem ws_fin {β : Type} {D : β → SOut} {b : β} {Δ : List Slot} (hD : D b = .nx Δ) (w : Weak Γ Δ) : WS X E B Γ [[]] (pure b) D := ws_pop (ws_end hD w)
instance (i j : Int) : Decidable (CMulW i j) := inferInstanceAs (Decidable (_ < _))
/-- written products beyond 64 bits -/
theorem we_mulW {e1 e2 : Expr} {a b : Int} {pos : Pos} (n : Int) (h1 : WE X E B Γ e1 tInt.rl (pure a)) (h2 : WE X E B Γ e2 tInt.rl (pure b)) (h : (decide (CMulW a b) && decide (a * b = n)) = true := by decide +kernel) : WE X E B Γ (.BinOp e1 .Mult e2 pos) tInt.rl (pure n) := by
  have q := we_op (pos := pos) op_mulW v_I h1 h2
  rw [Bool.and_eq_true, decide_eq_true_eq, decide_eq_true_eq] at h
  have e : ((pure a : Out Int) >>= fun a => (pure b : Out Int) >>= fun b => if CMulW a b then pure (a * b) else .stuck) = pure n := by
    show (if CMulW a b then (pure (a * b) : Out Int) else .stuck) = pure n
    rw [if_pos h.1, h.2]
  rw [e] at q
  exact q
/-- a number of the module -/
theorem we_gint (C : XC X N sc k E) {x : Str} {n : Int} {pos : Pos} (h : ∃ t, X.mg x = some (.int n t)) (hg : GlN sc x := by rfl) (hdb : (x == ("__debug__" : Str)) = false := by decide) : WE X E B Γ (.Name x pos) tInt.rl (pure n) := fun σ F H ω Q en p => by
  obtain ⟨t, h⟩ := h
  exact ⟨_, pe_glob (v := .int n) (gl_ C hg) h ⟨t, rfl⟩ hdb, p _ F H (Stp.refl en.fh) rfl⟩
/-- a comprehension put under a name that is a cell, or one of the block's own -/
theorem sw_no (C : XC X N sc k E) {elt : Expr} {gs : List Comprehension} {scope : Scope} {pos py : Pos} {y : Str} {l : Nat} (h : sc.sc.names.lookup y = some .cell ∨ (scope.names.any fun (n, k) => n == y && (k == .local || k == .cell)) = true) :
    swapsWith (.ListComp elt gs scope pos) (some (.Name y py)) l X.env = pure false := by
  unfold swapsWith
  rcases h with h | h
  · have ky : X.env.kindOf y = some .cell := by
      unfold Env.kindOf
      rw [C.scp]
      exact h
    have z : (NameKind.cell == NameKind.local) = false := rfl
    simp [ky, z]
  · simp [h]
end SL

set_option Elab.async false
set_option linter.all false
set_option maxRecDepth 100000
set_option maxHeartbeats 2000000
/-! SLi: enumerate over tuples; sets of ints. -/
namespace SL
open PySem PySem.Spec PyProof.Rows L2
/-! ### enumerate(t), t a tuple -/
def IteT (K : PySem.W.Frag) (a : Addr) : It :=
  ⟨fun i H => ∃ (xs : List V) (x : V), SqT K H a xs ∧ xs[i]? = some x, fun i H v H' => ∃ T x, v = .ref T ∧ H T = none ∧ H' = upd H T (.tup [.int (i : Nat), x]) ∧ ∀ xs, SqT K H a xs → xs[i]? = some x, fun i H => ∃ xs : List V, SqT K H a xs ∧ xs.length ≤ i⟩
theorem turn_enumT {P : Program} {w : World} {K : PySem.W.Frag} {elts : List Expr} {kk : Nat} {tpos : Pos} (a e it : Addr) (hei : e ≠ it) (hai : a ≠ it) (hae : e ≠ a) :
    Turn P w K (.Tuple elts kk tpos) (IteT K a) [e, it] e (fun i h => (∃ old, IsEnum h e it ((i : Nat) : Int) old) ∧ h.IsTupleIter it a i) where
  mem := by simp
  obj := fun i h ⟨⟨old, he⟩, ⟨o, ho, hc, hd⟩⟩ b hb => by
    rcases (show b = e ∨ b = it by simpa using hb) with z | z
    · rw [z]; exact ⟨_, he, fun v q => nomatch q⟩
    · rw [z]; exact ⟨o, ho, fun v q => by rw [hd] at q; cases q⟩
  keep := fun i h h' ⟨⟨old, he⟩, hi⟩ k => ⟨⟨old, k e (by simp) _ he⟩, hi.at fun o q => k it (by simp) o q⟩
  item := by
    intro X hP hw hK hc i pins s σ H E I hf ⟨⟨old, he⟩, hit⟩ ⟨xs, x, hq, hx⟩
    subst hP hw hK
    obtain ⟨its, rv, p, hz⟩ := I.tuple hq
    obtain ⟨u, hu, ru⟩ := rv.get hx
    have hsz : i < its.toArray.size := by
      have := (List.getElem?_eq_some_iff.mp hu).1
      simpa using this
    have hel : e < s.heap.objs.size := Heap.lt_size he
    have hil : it < s.heap.objs.size := by obtain ⟨_, q, _⟩ := hit; exact Heap.lt_size q
    refine wpAny_pyNext_enum_itemD (Draws.tuple (A := X.A.in1) (show X.A.in1.handled = none from I.ok.hd hc) it a hai its.toArray) he ⟨hit, p⟩ hsz hei (by simp [hei, hae]) fun y h' tk hy ho st' hT hz2 hk => ?_
    have ey : y = u := by
      have hy' : its.toArray[i]? = some y := hy
      rw [List.getElem?_toArray, hu] at hy'
      exact (Option.some.inj hy').symm
    subst ey
    refine ⟨_, rfl, wpAny_letOwnedTupleGo_enum (s := { s with heap := h', toks := tk + 1 }) ho fun h'' he' sb => ?_⟩
    have hT2 : h''.get? s.heap.objs.size = some { cls := .type "tuple", data := .seq #[.int i tk, y] } := (sb.2 _ (Nat.ne_of_gt hel)).trans hT
    have new : ObjOk X.prog X.w (upd H s.heap.objs.size (.tup [.int (i : Nat), x])) h'' s.heap.objs.size (.tup [.int (i : Nat), x]) :=
      ⟨by show 2 ≤ sizeLine; decide, [.int i tk, y], .cons ⟨_, rfl⟩ (.cons ru .nil), ⟨_, hT2, rfl, _, rfl⟩⟩
    have I1 : Inv X pins σ (upd H s.heap.objs.size (.tup [.int (i : Nat), x])) { s with heap := h'', toks := tk + 1 } :=
      I.turnedNew (ch := [e, it]) (fun b ob hb q => (sb.2 b (fun z => hb (by simp [z]))).trans (hk b ob (fun z => hb (by simp [z])) (fun z => hb (by simp [z])) q)) hf (Nat.le_refl _) new
    refine ⟨.ref s.heap.objs.size, _, I1, rfl, ⟨_, x, rfl, I.hok.fresh (Nat.le_refl _), rfl, fun ys hy => by rw [I.tuple_inj hy hq]; exact hx⟩, ⟨⟨y, ?_⟩, st'.1.at fun o q => (sb.2 it (Ne.symm hei)).trans q⟩, fun b hb => ?_⟩
    · have e1 : ((i + 1 : Nat) : Int) = (i : Int) + 1 := by omega
      rw [e1]; exact he'
    · have hb' : b < s.heap.objs.size := by
        rcases (show b = e ∨ b = it by simpa using hb) with z | z
        · rw [z]; exact hel
        · rw [z]; exact hil
      rw [upd_ne (Nat.ne_of_lt hb')]
      exact (hf b hb).1
  done := by
    intro X hP hw hK hc i pins s σ H E I hf ⟨⟨old, he⟩, hit⟩ ⟨xs, hq, hx⟩
    subst hP hw hK
    obtain ⟨its, rv, p, hz⟩ := I.tuple hq
    obtain ⟨f0, f1, f2, f3, f4, f5⟩ := hf it (by simp)
    have hl := rv.length
    -- the walk stands at its end, or behind it
    have D2 : Draws X.prog X.w X.A.in1 it [it, a] i (fun i v => its.toArray[i]? = some v) (fun j h => j = i ∧ h.IsTupleIter it a i ∧ h.IsTuple a its.toArray) :=
      { live := fun _ _ st => let ⟨o, ho, _⟩ := st.2.1; ⟨o, ho⟩
        frame := fun _ _ _ st hk => ⟨st.1, st.2.1.at fun o e => hk it (by simp) o e, st.2.2.at fun o e => hk a (by simp) o e⟩
        item := fun j s Q E hj st hQ => absurd st.1 (Nat.ne_of_lt hj)
        done := fun s Q E st hE => wpAny_nextOf_tuple_end (I.ok.hd hc) st.2.1 st.2.2 (by simp; omega) hE }
    exact wpAny_pyNext_enum_endD D2 he ⟨rfl, hit, p⟩ fun h' eb => ⟨rfl, I.turned (t' := s.toks) (fun b o hb q => eb b o hb q) f0 f1 f3 f4 f5⟩
  self := fun A i s Q E ⟨⟨_, he⟩, _⟩ h => wpAny_pyIter_enum he h
theorem meets_enum1 {v : Value} {o : Obj} {H : Heap → Prop} (B : Begins v o H) :
    Meets (Builtin.«enumerate.__new__» ⟨[.type "enumerate", v], []⟩) (fun _ R s => H s.heap ∧
      R (.ok (.ret (.ref (s.heap.push o).objs.size))) { s with heap := (s.heap.push o).push { cls := .type "enumerate", data := .fields #[.none, .bool false, .ref s.heap.objs.size, rawInt 0, .none, .none] } }) :=
  .of_wp fun prog w A R s h => by
    obtain ⟨hp, g, d, tk, os⟩ := s; obtain ⟨h1, h⟩ := h
    have hsub := sub_enumerate
    have q1 : ∀ {A' : Around} {E : Value → Shared → Prop} {Q : Value → Shared → Prop}, Q (.ref hp.objs.size) ⟨hp.push o, g, d, tk, os⟩ → wpAny (model prog w) A' (pyIter v) Q E ⟨hp, g, d, tk, os⟩ :=
      fun q => B.iter prog w _ _ ⟨hp, g, d, tk, os⟩ _ h1 q
    wp_walk using q1
    refine wpAny_stack_any fun st => wpAny_pure ?_
    split
    · rename_i c _ _ _ _ _
      cases (c == Value.type "enumerate") <;> (wp_walk using q1; exact ⟨_, rfl, h⟩)
    · wp_walk using q1
      exact ⟨_, rfl, h⟩
theorem call_enum1 {prog : Program} {w : World} {A : Around} {E : Value → Shared → Prop} {s : Shared} {v : Value} {o : Obj} {H : Heap → Prop} {Q : Value → Shared → Prop} (B : Begins v o H) (h1 : H s.heap)
    (h : ∀ h', IsEnum h' (s.heap.objs.size + 1) s.heap.objs.size 0 .none → h'.get? s.heap.objs.size = some o → h'.objs.size = s.heap.objs.size + 2 →
      (∀ b o, s.heap.get? b = some o → h'.get? b = some o) → Q (.ref (s.heap.objs.size + 1)) { s with heap := h' }) :
    wpAny (model prog w) A (call (.type "enumerate") [v]) Q E s := by
  refine callType_new F.called_enumerate (by decide) (F.typeCall_enumerate_1 _) (F.newCall_enumerate_1 _) (fun obj => F.args_object_init_2 obj _) F.entry_enumerate_new (meets_enum1 B) ⟨h1, ?_⟩
  have hz : (s.heap.push o).objs.size = s.heap.objs.size + 1 := Heap.size_push ..
  show _ ∧ _
  rw [hz]
  have he : IsEnum ((s.heap.push o).push { cls := .type "enumerate", data := .fields #[.none, .bool false, .ref s.heap.objs.size, rawInt 0, .none, .none] }) (s.heap.objs.size + 1) s.heap.objs.size 0 .none := by
    have := Heap.get?_push_size (s.heap.push o) (o := { cls := .type "enumerate", data := .fields #[.none, .bool false, .ref s.heap.objs.size, rawInt 0, .none, .none] }) rfl
    rw [hz] at this; exact this
  exact ⟨⟨_, he, rfl⟩, h _ he (Heap.get?_push_of_some _ (Heap.get?_push_size _ B.free)) (by rw [Heap.size_push, hz]) fun b o x => Heap.get?_push_of_some _ (Heap.get?_push_of_some _ x)⟩
def iEnumT (K : PySem.W.Frag) (ta : TA) : TI := fun σ H R => ta σ H fun vs H1 => ∃ a xs, vs = [.ref a] ∧ SqT K H1 a xs ∧ R (IteT K a) H1
theorem pi_enumT {X : Cx} {e : Expr} {ta : TA} {p pos tpos : Pos} {elts : List Expr} {kk : Nat} (hg : Gl X "enumerate") (hm : X.mg "enumerate" = none) (ha : PA X [e] ta) (hs : starEach [e] X.env = [(false, eval e X.env)] := by rfl) :
    PI X (.Tuple elts kk tpos) (.Call (.Name "enumerate" p) [e] [] pos) (iEnumT X.K ta) := by
  refine ⟨fun pins s σ H R I h => ?_⟩
  refine Call_ (ld_blt I hg hm boot_enumerate (PyProof.Rows.callWith_type1 (thn (ha.run pos pins s σ H _ I h) fun us s1 ⟨vs, H1, I1, r1, a, xs, ex, hq, q⟩ => ?_) hs rfl))
  subst ex
  cases r1 with
  | cons r rr =>
    cases rr
    cases r
    obtain ⟨its, rv, p', hz⟩ := I1.tuple hq
    obtain ⟨oa, hoa, _⟩ := id p'
    have hal : a < s1.heap.objs.size := Heap.lt_size hoa
    refine call_enum1 (begins_tuple a its.toArray) p' fun h' he hit hsz hk => wpAny_pyIter_enum he ?_
    have I2 : Inv X pins σ H1 { s1 with heap := h' } := I1.kept (t' := s1.toks) hk
    have n1 : s1.heap.objs.size + 1 ≠ s1.heap.objs.size := Nat.succ_ne_self _
    refine ⟨s1.heap.objs.size + 1, [s1.heap.objs.size + 1, s1.heap.objs.size], _, _, H1, rfl, I2, turn_enumT a (s1.heap.objs.size + 1) s1.heap.objs.size n1 (Nat.ne_of_lt hal) (Nat.ne_of_gt (Nat.lt_succ_of_lt hal)), ⟨⟨.none, he⟩, ⟨_, hit, rfl, rfl⟩⟩, fun b hb => ?_, q⟩
    have hle : s1.heap.objs.size ≤ b := by
      rcases (show b = s1.heap.objs.size + 1 ∨ b = s1.heap.objs.size by simpa using hb) with z | z
      · rw [z]; exact Nat.le_add_right _ _
      · rw [z]; exact Nat.le_refl _
    exact I1.fpOk hle (I1.hok.fresh hle)
variable {X : Cx} {N : List Str} {sc : Scp} {k : Nat} {E : XK} {B : Bs} {Γ : List Slot}
/-! ### enumerate as a walk -/
def enumL {α : Type} (xs : List α) : List (Int × α) := (List.range xs.length).zip xs |>.map fun p => ((p.1 : Int), p.2)
theorem enumL_len {α : Type} (xs : List α) : (enumL xs).length = xs.length := by simp [enumL]
theorem enumL_get {α : Type} {xs : List α} {i : Nat} {a : α} (h : xs[i]? = some a) : (enumL xs)[i]? = some ((i : Int), a) := by
  have hi := (List.getElem?_eq_some_iff.mp h).1
  unfold enumL
  have z : ((List.range xs.length).zip xs)[i]? = some (i, a) := by
    rw [List.getElem?_zip_eq_some]
    exact ⟨List.getElem?_range hi, h⟩
  rw [List.getElem?_map, z]
  rfl
section
variable {elts : List Expr} {kk : Nat} {tpos : Pos} {e : Expr} {α : Type} {T : Ty α} {m : Out (List α)} {p pos : Pos}
theorem new_pair {K : PySem.W.Frag} {F H : Hp} {D : Addr} {v1 v2 : V} {α β : Type} {T : Ty α} {U : Ty β} {a : α} {b : β} (s : Same F H) (n : H D = none) (r1 : T.rel K F v1 a) (r2 : U.rel K F v2 b) :
    Stp F H (upd F D (.tup [v1, v2])) (upd H D (.tup [v1, v2])) ∧ (tT2 T U).rel K (upd F D (.tup [v1, v2])) (.ref D) (a, b) :=
  have q := Stp.new (o := .tup [v1, v2]) s n
  ⟨q, D, v1, v2, rfl, SqT.of upd_same, T.mono q.ff r1, U.mono q.ff r2⟩
theorem wi_enumT (C : XC X N sc k E) (Z : Fre X.mg) (h : WE X E B Γ e (tTup T).rl m) (hg : GlN sc "enumerate" := by rfl) (hs : starEach (e :: []) X.env = (false, eval e X.env) :: starEach [] X.env := by rfl) (hs2 : starEach [e] X.env = [(false, eval e X.env)] := by rfl) :
    WI X E B Γ (.Tuple elts kk tpos) (.Call (.Name "enumerate" p) [e] [] pos) (tT2 tInt T) (m >>= fun a => pure (enumL a)) := fun σ F H ω R en q => by
  refine ⟨_, pi_enumT (gl_ C hg) Z.enumerate (pa_cons (pe_lenQ pe_s) pa_nil hs) hs2, ?_⟩
  refine h σ F H ω _ en (q.bind.imp fun xs q v F1 H1 s1 ⟨a, vs, e, sq, r⟩ hl => ⟨a, vs, by rw [e], seqT s1.fh sq, q _ F1 H1 s1 ?_ ?_⟩)
  · refine ⟨fun i F H hi sf sh _ _ => ⟨vs, vs[i]'(by rw [r.len]; rw [enumL_len] at hi; exact hi), seqT sh (seqT sf sq), by simp⟩, fun F H sf sh _ _ => ⟨vs, seqT sh (seqT sf sq), by rw [r.len, enumL_len]; exact Nat.le_refl _⟩, fun i F H x H' hi sf sh _ _ y => ?_⟩
    obtain ⟨D, x1, rfl, hD, rfl, hx⟩ := y
    obtain ⟨b, hb, rb⟩ := r.getV (hx vs (seqT sh (seqT sf sq)))
    obtain ⟨s2, r2⟩ := new_pair (T := tInt) (U := T) (v1 := .int (i : Nat)) (a := ((i : Nat) : Int)) sh hD rfl (T.mono sf rb)
    exact ⟨_, _, s2, enumL_get hb, r2⟩
  · rw [enumL_len, ← r.len]
    exact sqT_len (seqT s1.fh sq) hl
/-- over a fixed list -/
theorem wi_enumL (C : XC X N sc k E) (Z : Fre X.mg) (h : WE X E B Γ e (tLst T).rl m) (hg : GlN sc "enumerate" := by rfl) (hs : starEach (e :: []) X.env = (false, eval e X.env) :: starEach [] X.env := by rfl) (hs2 : starEach [e] X.env = [(false, eval e X.env)] := by rfl) :
    WI X E B Γ (.Tuple elts kk tpos) (.Call (.Name "enumerate" p) [e] [] pos) (tT2 tInt T) (m >>= fun a => pure (enumL a)) := fun σ F H ω R en q => by
  refine ⟨_, pi_enum (gl_ C hg) Z.enumerate (pa_cons (pe_lenQ pe_s) pa_nil hs) hs2, ?_⟩
  refine h σ F H ω _ en (q.bind.imp fun xs q v F1 H1 s1 ⟨a, vs, e, sq, r⟩ hl => ⟨a, vs, by rw [e], SqL.of (s1.fh _ _ sq), q _ F1 H1 s1 ?_ ?_⟩)
  · refine ⟨fun i F H hi sf sh _ _ => ⟨vs, vs[i]'(by rw [r.len]; rw [enumL_len] at hi; exact hi), SqL.of (sh _ _ (sf _ _ sq)), by simp⟩, fun F H sf sh _ _ => ⟨vs, SqL.of (sh _ _ (sf _ _ sq)), by rw [r.len, enumL_len]; exact Nat.le_refl _⟩, fun i F H x H' hi sf sh _ _ y => ?_⟩
    obtain ⟨D, x1, rfl, hD, rfl, hx⟩ := y
    obtain ⟨b, hb, rb⟩ := r.getV (hx vs (SqL.of (sh _ _ (sf _ _ sq))))
    obtain ⟨s2, r2⟩ := new_pair (T := tInt) (U := T) (v1 := .int (i : Nat)) (a := ((i : Nat) : Int)) sh hD rfl (T.mono sf rb)
    exact ⟨_, _, s2, enumL_get hb, r2⟩
  · rw [enumL_len, ← r.len]
    exact hl a vs (.inl (.inl (s1.fh _ _ sq)))
end
end SL

set_option Elab.async false
set_option linter.all false
set_option maxRecDepth 100000
set_option maxHeartbeats 2000000
/-! SLj: sets of ints. -/
namespace SL
open PySem PySem.Spec PyProof.Rows L2
variable {X : Cx} {N : List Str} {sc : Scp} {k : Nat} {E : XK} {B : Bs} {Γ : List Slot}
/-- the members of the set at p: those of a -/
def SetAt (w : World) (H : Hp) (p : Addr) (a : List Int) : Prop := ∃ n, H p = some (SetO w p (fun k => decide (k ∈ a)) n) ∧ n ≤ a.length
def oSet (w : World) : Own (List Int) := ⟨fun K F H S v a => ∃ p, v = .ref p ∧ S p ∧ SetAt w H p a, fun ⟨p, e, sp, n, h, l⟩ s k => ⟨p, e, sp, n, (k p sp).trans h, l⟩⟩
def tSet (w : World) : Ty (List Int) := ⟨fun K F v a => ∃ p, v = .ref p ∧ SetAt w F p a, fun s ⟨p, e, n, h, l⟩ => ⟨p, e, n, s _ _ h, l⟩⟩
def rSet (w : World) : Rl (List Int) := ⟨fun K F H v a => ∃ p, v = .ref p ∧ SetAt w H p a, fun s ⟨p, e, n, h, l⟩ => ⟨p, e, n, s.hh _ _ h, l⟩⟩
theorem fz_set (w : World) : Fz (oSet w) (tSet w) := fun K F H S v a d ⟨p, e, sp, n, h, l⟩ => ⟨p, e, n, (frz_in sp).trans h, l⟩
theorem WE.rdS {w : World} {e : Expr} {m : Out (List Int)} (h : WE X E B Γ e (tSet w).rl m) : WE X E B Γ e (rSet w) m := fun σ F H ω Q en p =>
  h σ F H ω Q en (p.imp fun a q v F' H' s ⟨b, e, n, hb, l⟩ => q v F' H' s ⟨b, e, n, s.fh _ _ hb, l⟩)
theorem WO.rdS {w : World} {e : Expr} {m : Out (List Int)} (h : WO X E B Γ e (oSet w) m) : WE X E B Γ e (rSet w) m := fun σ F H ω Q en p =>
  h σ F H ω Q en (p.imp fun a q v F' H' S s d ⟨b, e, sb, r⟩ => q v F' H' s ⟨b, e, r⟩)
/-- the set of a slot -/
theorem we_sovar {w : World} (C : XC X N sc k E) (i : Nat) {x : Str} {pos : Pos} {a : List Int} (hΓ : Γ[i]? = some (.on _ (oSet w) a) := by rfl) (hN : N[i]? = some x := by rfl) (hv : Vis sc.sc x := by first | exact Or.inl rfl | exact Or.inr (Or.inl rfl) | exact Or.inr (Or.inr rfl))
    (hd : (x == ("__debug__" : Str)) = false := by decide) (hcd : (x == ("__classdict__" : Str)) = false := by decide) : WE X E B Γ (.Name x pos) (rSet w) (pure a) := fun σ F H ω Q en p => by
  obtain ⟨v, hs, b, e, sb, r⟩ := en.slot i _ hΓ
  exact ⟨_, pv_ C hN hv hd hcd, v, join_some hs, p v F H (Stp.refl en.fh) ⟨b, e, r⟩⟩
/-- set() -/
theorem wo_set0 (C : XC X N sc k E) (Z : Fre X.mg) {p pos : Pos} (hg : GlN sc "set" := by rfl) (hn : ("set" : Str) ≠ "__name__" := by decide) : WO X E B Γ (.Call (.Name "set" p) [] [] pos) (oSet X.w) (pure []) := fun σ F H ω Q en q =>
  ⟨_, pe_callTy0 cr_set0 (gl_ C hg) Z.set (by decide +kernel), rfl, fun p hp => q (.ref p) F _ (fun a => a = p) (Stp.newH en.fh hp) (fun a e => by
    subst e
    exact ⟨en.fh.free hp, (by rw [upd_same]; exact fun z => nomatch z), hp⟩) ⟨p, rfl, rfl, 0, by rw [upd_same] <;> simp, Nat.le_refl _⟩⟩
def addO (xs : List Int) (x : Int) : Out (List Int) := if xs.length < 4000 then pure (if x ∈ xs then xs else xs ++ [x]) else .stuck
/-- x.add(e) -/
theorem ws_add {β : Type} {D : β → SOut} {b : List Stmt} {bs : List (List Stmt)} {x : Str} {p p2 p3 pos : Pos} {e : Expr} {xs : List Int} {me : Out Int} {f : List Int → Out β} (C : XC X N sc k E) (i : Nat) (h : WE X E B Γ e tInt.rl me) (hr : ∀ a, WS X E B (Γ.set i (.on _ (oSet X.w) a)) (b :: bs) (f a) D)
    (hΓ : Γ[i]? = some (.on _ (oSet X.w) xs) := by rfl) (hN : N[i]? = some x := by rfl) (hv : Vis sc.sc x := by first | exact Or.inl rfl | exact Or.inr (Or.inl rfl) | exact Or.inr (Or.inr rfl))
    (hd : (x == ("__debug__" : Str)) = false := by decide) (hcd : (x == ("__classdict__" : Str)) = false := by decide) (hbase : attributeBase (.Name x p) "add" X.env (eval (.Name x p) X.env) = eval (.Name x p) X.env := by rfl)
    (hfew : ((backTo p3 (starEach (e :: []) X.env)).all (fun x => !x.1) && (backToKw p3 (keywordEach [] X.env)).all (fun x => x.1.isSome) && decide ((e :: []).length + ([] : List Keyword).length + (if ([] : List Keyword).isEmpty then 0 else 1) < 30)) = true := by rfl)
    (hline : (p2.endLine == p3.line) = true := by rfl) (hs : starEach (e :: []) X.env = (false, eval e X.env) :: starEach [] X.env := by rfl) (hpl : (backTo p3 (starEach ([] : List Expr) X.env)).any (·.1) = false := by rfl) (hsw : swapsWith (.Call (.Attribute (.Name x p) "add" p2) [e] [] p3) none pos.line X.env = pure false := by rfl) :
    WS X E B Γ ((.Expr (.Call (.Attribute (.Name x p) "add" p2) [e] [] p3) pos :: b) :: bs) (me >>= fun a => addO xs a >>= f) D := fun σ F H ω En en q => by
  refine sK_cons ⟨_, ps_expr (pe_sadd (pv_ C hN hv hd hcd) (pa_cons pe_s pa_nil hs) hbase hfew hline hs hpl) hsw, ?_⟩
  obtain ⟨v, hσ, l, rfl, hl, n, hH, hn⟩ := en.slot i _ hΓ
  have hσ := join_some hσ
  refine ⟨_, hσ, ⟨l, _, n, rfl, hH⟩, h σ F H ω _ en (q.bind.imp fun a q v F1 H1 s1 ra => ?_)⟩
  unfold addO at q
  by_cases c : xs.length < 4000
  · rw [if_pos c] at q
    have en1 := en.stp s1
    refine ⟨l, a, _, n, rfl, by rw [show v = .int a from ra], s1.hh _ _ hH, by rw [show scanBound = 4096 from rfl]; omega, ?_⟩
    refine hr _ σ F1 _ ω En (env_wr en1 hΓ hσ hl (a' := if a ∈ xs then xs else xs ++ [a]) ⟨l, rfl, hl, if decide (a ∈ xs) = true then n else n + 1, ?_, ?_⟩) (Post.imp q fun b z => EndOk.up z s1.ff)
    · rw [upd_same]
      congr 2
      funext j
      by_cases ca : a ∈ xs
      · by_cases cj : j = a
        · subst cj; simp [ca]
        · simp [ca, cj]
      · simp [ca]
    · by_cases ca : a ∈ xs
      · simp [ca]; exact hn
      · simp [ca]; exact hn
  · rw [if_neg c] at q
    exact q.elim
/-! in, not in -/
section
variable {e1 e2 : Expr} {m1 : Out Int} {m2 : Out (List Int)} {pos : Pos}
theorem v_inS {K : PySem.W.Frag} {w : World} : VOp K (rSIn w) tInt.rl (rSet w) tBool.rl (fun a as => pure (decide (a ∈ as))) := fun F H x y a b Q J s h1 ⟨p, e, n, hp, hn⟩ po => ⟨a, p, _, n, h1, e, hp, po _ F H (Stp.refl s) rfl⟩
theorem v_niS {K : PySem.W.Frag} {w : World} : VOp K (rSNotIn w) tInt.rl (rSet w) tBool.rl (fun a as => pure (!decide (a ∈ as))) := fun F H x y a b Q J s h1 ⟨p, e, n, hp, hn⟩ po => ⟨a, p, _, n, h1, e, hp, po _ F H (Stp.refl s) rfl⟩
theorem we_inS (h1 : WE X E B Γ e1 tInt.rl m1) (h2 : WE X E B Γ e2 (rSet X.w) m2) (hm : behindInMarks .In e2 = false := by with_unfolding_all rfl) : WE X E B Γ (.Compare e1 [.In] [e2] pos) tBool.rl (m1 >>= fun a => m2 >>= fun as => pure (decide (a ∈ as))) := we_cmp or_sin v_inS hm h1 h2
theorem wt_inS (h1 : WE X E B Γ e1 tInt.rl m1) (h2 : WE X E B Γ e2 (rSet X.w) m2) (hm : behindInMarks .In e2 = false := by with_unfolding_all rfl) : WT X E B Γ (.Compare e1 [.In] [e2] pos) (m1 >>= fun a => m2 >>= fun as => pure (decide (a ∈ as))) := wt_cmp or_sin v_inS hm h1 h2
theorem we_niS (h1 : WE X E B Γ e1 tInt.rl m1) (h2 : WE X E B Γ e2 (rSet X.w) m2) (hm : behindInMarks .NotIn e2 = false := by with_unfolding_all rfl) : WE X E B Γ (.Compare e1 [.NotIn] [e2] pos) tBool.rl (m1 >>= fun a => m2 >>= fun as => pure (!decide (a ∈ as))) := we_cmp or_snotin v_niS hm h1 h2
theorem wt_niS (h1 : WE X E B Γ e1 tInt.rl m1) (h2 : WE X E B Γ e2 (rSet X.w) m2) (hm : behindInMarks .NotIn e2 = false := by with_unfolding_all rfl) : WT X E B Γ (.Compare e1 [.NotIn] [e2] pos) (m1 >>= fun a => m2 >>= fun as => pure (!decide (a ∈ as))) := wt_cmp or_snotin v_niS hm h1 h2
end
end SL

set_option Elab.async false
set_option linter.all false
set_option maxRecDepth 100000
set_option maxHeartbeats 2000000
/-! SLk: sorted lists of tuples of ints, of any lengths. -/
namespace SL
open PySem PySem.Spec PyProof.Rows L2
/-! ### the order -/
def lexL : List Int → List Int → Bool
  | [], [] => false
  | [], _ :: _ => true
  | _ :: _, [] => false
  | x :: xs, y :: ys => if x = y then lexL xs ys else decide (x < y)
theorem lexL_irr : ∀ x : List Int, lexL x x = false
  | [] => rfl
  | x :: xs => by simp [lexL, lexL_irr xs]
theorem lexL_asym : ∀ {x y : List Int}, lexL x y = true → lexL y x = false
  | [], [], h => by simp [lexL] at h
  | [], _ :: _, _ => rfl
  | _ :: _, [], h => by simp [lexL] at h
  | x :: xs, y :: ys, h => by
    unfold lexL at h ⊢
    by_cases c : x = y
    · subst c
      rw [if_pos rfl] at h ⊢
      exact lexL_asym h
    · rw [if_neg c] at h
      rw [if_neg (Ne.symm c)]
      have := of_decide_eq_true h
      exact decide_eq_false (by omega)
theorem lexL_tr : ∀ {x y z : List Int}, lexL y x = false → lexL z y = false → lexL z x = false
  | [], [], [], _, _ => rfl
  | [], [], _ :: _, _, _ => rfl
  | [], _ :: _, [], h, h2 => by simp [lexL] at h2
  | [], _ :: _, _ :: _, _, _ => rfl
  | _ :: _, [], _, h, _ => by simp [lexL] at h
  | _ :: _, _ :: _, [], _, h => by simp [lexL] at h
  | x :: xs, y :: ys, z :: zs, h1, h2 => by
    unfold lexL at h1 h2 ⊢
    by_cases a : y = x
    · subst a
      rw [if_pos rfl] at h1
      by_cases b : z = y
      · subst b
        rw [if_pos rfl] at h2 ⊢
        exact lexL_tr h1 h2
      · rw [if_neg b] at h2 ⊢
        exact h2
    · rw [if_neg a] at h1
      have h1 := of_decide_eq_false h1
      by_cases b : z = y
      · subst b
        rw [if_neg a]
        exact decide_eq_false h1
      · rw [if_neg b] at h2
        have h2 := of_decide_eq_false h2
        rw [if_neg (by omega)]
        exact decide_eq_false (by omega)
theorem lexL_anti : ∀ {x y : List Int}, lexL x y = false → lexL y x = false → x = y
  | [], [], _, _ => rfl
  | [], _ :: _, h, _ => by simp [lexL] at h
  | _ :: _, [], _, h => by simp [lexL] at h
  | x :: xs, y :: ys, h1, h2 => by
    unfold lexL at h1 h2
    by_cases c : x = y
    · subst c
      rw [if_pos rfl] at h1 h2
      rw [lexL_anti h1 h2]
    · rw [if_neg c] at h1
      rw [if_neg (Ne.symm c)] at h2
      have h1 := of_decide_eq_false h1
      have h2 := of_decide_eq_false h2
      omega
theorem srt_uniq {α : Type} {le : α → α → Prop} (anti : ∀ a b, le a b → le b a → a = b) : ∀ {xs ys : List α}, xs.Perm ys → xs.Pairwise le → ys.Pairwise le → xs = ys
  | [], ys, p, _, _ => p.nil_eq
  | x :: xs, [], p, _, _ => absurd p.length_eq (by simp)
  | x :: xs, y :: ys, p, h1, h2 => by
    have hx : x ∈ y :: ys := p.mem_iff.mp (by simp)
    have hy : y ∈ x :: xs := p.mem_iff.mpr (by simp)
    have e : x = y := by
      rcases List.mem_cons.mp hx with h | h
      · exact h
      · rcases List.mem_cons.mp hy with g | g
        · exact g.symm
        · exact anti _ _ ((List.pairwise_cons.mp h1).1 y g) ((List.pairwise_cons.mp h2).1 x h)
    subst e
    rw [srt_uniq anti (List.Perm.cons_inv p) (List.pairwise_cons.mp h1).2 (List.pairwise_cons.mp h2).2]
def sortT (xs : List (List Int)) : List (List Int) := xs.mergeSort (fun a b => !lexL b a)
theorem sortT_perm (xs : List (List Int)) : (sortT xs).Perm xs := List.mergeSort_perm _ _
theorem sortT_sorted (xs : List (List Int)) : (sortT xs).Pairwise (fun a b => lexL b a = false) := by
  have h := List.pairwise_mergeSort (le := fun a b : List Int => !lexL b a) (fun a b c h1 h2 => by
    simp only [Bool.not_eq_true'] at *
    exact lexL_tr h1 h2) (fun a b => by
    cases c : lexL b a with
    | false => rfl
    | true => rw [lexL_asym c] <;> rfl) xs
  exact h.imp fun h => by simpa using h
theorem sortT_uniq {xs ys : List (List Int)} (p : ys.Perm xs) (h : ys.Pairwise (fun a b => lexL b a = false)) : ys = sortT xs :=
  srt_uniq (le := fun a b => lexL b a = false) (fun a b h1 h2 => lexL_anti h2 h1) (p.trans (sortT_perm xs).symm) h (sortT_sorted xs)
def sortTO (xs : List (List Int)) : Out (List (List Int)) := if ∀ x ∈ xs, x ≠ [] then pure (sortT xs) else .stuck

/-! ### the run -/
section
variable {prog : Program} {w : World} {A : Around} {E : Value → Shared → Prop} {s : Shared}
theorem lex_any {Q : Bool → Shared → Prop} {b : Bool} {us vs : List Value} {xs ys : List Int} (i : Nat) (hx : IntsAre us xs) (hy : IntsAre vs ys) (h : Q (lexL xs ys) s) : PySem.W.KatLex prog w A b (decide (xs.length < ys.length)) Q (us.zip vs) i s := by
  induction hx generalizing vs ys i with
  | nil =>
    cases hy with
    | nil => exact PySem.W.kat_nil h
    | cons q u hy => exact PySem.W.kat_nil (by simpa [lexL] using h)
  | @cons p t us xs hx ih =>
    cases hy with
    | nil => exact PySem.W.kat_nil (by simpa [lexL] using h)
    | @cons q u vs ys hy =>
      show PySem.W.KatLex prog w A b _ Q ((Value.int p t, Value.int q u) :: us.zip vs) i s
      refine PySem.W.kat_cons (wpAny_eqBool_int ?_)
      unfold lexL at h
      by_cases e : p = q
      · subst e
        rw [if_pos rfl] at h
        rw [beq_self_eq_true]
        have hl : decide ((p :: xs).length < (p :: ys).length) = decide (xs.length < ys.length) := by simp
        rw [hl]
        exact PySem.W.kat_yes (ih (i + 1) hy h)
      · rw [if_neg e] at h
        rw [show (p == q) = false from beq_eq_false_iff_ne.mpr e]
        exact PySem.W.kat_no (TS.oneLt_ints _ h)
theorem swo_lexL (k : Value → List Int) : SrtO.Swo fun v u => lexL (k v) (k u) := ⟨fun x y h => lexL_asym h, fun x y z h1 h2 => lexL_tr h1 h2⟩
theorem tup_cmp {vs : List Value} {k : Value → List Int} (hp : ∀ v ∈ vs, TS.TupInts s.heap v (k v)) : SrtO.Cmp prog w A s (tuples' true) (fun p => p.1 ∈ vs) (SrtO.lt2 fun v u => lexL (k v) (k u)) := by
  intro p q hm hm'
  have h1 := hp _ hm
  have h2 := hp _ hm'
  show wpAny (model prog w) A (keyLt' (tuples' true) p.1 q.1) (fun r s' => s' = s ∧ r = lexL (k p.1) (k q.1)) (fun _ _ => False) s
  generalize k p.1 = x at h1 ⊢
  generalize k q.1 = y at h2 ⊢
  obtain ⟨a, xs, e1, ⟨o, ho, hc, n, hdt⟩, i⟩ := h1
  obtain ⟨a', ys, e2, ⟨o', ho', hc', n', hdt'⟩, i'⟩ := h2
  rw [e1, e2]
  refine PySem.W.kat_lt ho hdt ho' hdt' ?_
  have l1 := i.length
  have l2 := i'.length
  rw [Array.length_toList] at l1 l2
  rw [l1, l2]
  exact lex_any 0 i i' ⟨rfl, rfl⟩
theorem firsts_any {h : Heap} {k : Value → List Int} : ∀ vs : List Value, (∀ v ∈ vs, TS.TupInts h v (k v) ∧ k v ≠ []) → ∃ fs, PySem.W.KatTups h vs fs ∧ fs.length = vs.length ∧ ∀ f, f ∈ fs → ∃ n t, f = Value.int n t
  | [], _ => ⟨[], PySem.W.KatTups.nil, rfl, fun f hf => by simp at hf⟩
  | v :: vs, x => by
    obtain ⟨fs, hk, hl, hi⟩ := firsts_any vs fun u hu => x u (List.mem_cons_of_mem _ hu)
    obtain ⟨⟨a, xs, e, ⟨o, ho, hc, n, hdt⟩, i⟩, hn⟩ := x v (List.mem_cons_self ..)
    cases q : xs.toList with
    | nil =>
      rw [q] at i
      have l := i.length
      rw [List.length_nil] at l
      exact absurd (List.length_eq_zero_iff.mp l.symm) hn
    | cons y ys =>
      obtain ⟨m, t, hy⟩ := i.all y (by rw [q]; exact List.mem_cons_self ..)
      rw [e]
      refine ⟨y :: fs, PySem.W.KatTups.cons ho hc hdt ?_ hk, by simp [hl], ?_⟩
      · have z := congrArg (fun l : List Value => l[0]?) q
        simpa using z
      · intro f hf
        rcases List.mem_cons.mp hf with rfl | hf
        · exact ⟨m, t, hy⟩
        · exact hi f hf
theorem sorted_any {l : Addr} {vs : List Value} {k : Value → List Int} {Q : Value → Shared → Prop} (hl : s.heap.IsList l vs.toArray) (hz : vs.length ≤ sizeLine) (hp : ∀ v ∈ vs, TS.TupInts s.heap v (k v) ∧ k v ≠ [])
    (h : ∀ out : List Value, SrtO.Srtd (fun v u => lexL (k v) (k u)) out → out.Perm vs → Q (.ref (s.heap.objs.size + 1)) { s with heap := sortedAll s.heap vs out.toArray }) :
    wpAny (model prog w) A (call (.builtin "sorted") [.ref l]) Q E s := by
  refine SrtO.sorted_ord (swo_lexL k) hl hz (fun h2 h₁ a ha kk h' keep => ?_) fun out hs hb => h out hs hb.perm
  have hp' : ∀ v ∈ vs, TS.TupInts h' v (k v) ∧ k v ≠ [] := fun v hm => ⟨(hp v hm).1.keeps fun b o e c => keep b o (fun z => (kk b o e).1 z) ((kk b o e).2), (hp v hm).2⟩
  obtain ⟨fs, h1, h2', h3⟩ := firsts_any vs hp'
  refine ⟨tuples' true, fun Q E hq => ?_, tup_cmp fun v hm => (hp' v hm).1⟩
  refine PySem.W.kat_kind (T := .type "int") h1 (by omega) (fun f hm => ?_) (by rfl) ?_
  · obtain ⟨x, t, rfl⟩ := h3 f hm
    exact PySem.W.Looks.now
  · have e : (Value.type "int" != Value.type "tuple") = true := by first | decide +kernel | rfl | decide
    rw [e]
    exact hq
end
section
variable {X : Cx}
def rSortTup (K : PySem.W.Frag) : List V → Hp → VK → Prop := fun vs H Q => ∃ (a : Addr) (xs : List V) (nss : List (List Int)) (R : V → List Int → Prop), vs = [V.ref a] ∧ SqL K H a xs ∧ (∀ v ns, R v ns → TupI K H v ns) ∧ Fa2 R xs nss ∧ (∀ ns ∈ nss, ns ≠ []) ∧
  ∀ (ys : List V) (p : Addr), Fa2 R ys (sortT nss) → H p = none → Q (.ref p) (upd H p (.lst ys))
theorem tups_vals {pins : List (Addr × Obj)} {σ : L2.St} {H : Hp} {s : Shared} (I : Inv X pins σ H s) {R : V → List Int → Prop} (hR : ∀ v ns, R v ns → TupI X.K H v ns) : ∀ {xs : List V} {its : List Value} {nss : List (List Int)}, Vals xs its → Fa2 R xs nss →
    (∀ u ∈ its, ∃ ns t, u = Value.ref t ∧ R (.ref t) ns ∧ ns ∈ nss ∧ TS.TupInts s.heap u ns) ∧ its.map (TS.intsOf s.heap) = nss
  | _, _, _, .nil, .nil => ⟨fun u hu => by simp at hu, rfl⟩
  | x :: xs, u0 :: its, ns :: nss, .cons rv t, .cons r f => by
    obtain ⟨h1, h2⟩ := tups_vals I hR t f
    obtain ⟨t', e, ht⟩ := hR _ _ r
    subst e
    have e2 : u0 = Value.ref t' := rv
    subst e2
    have hi := tupI_raw I ht
    refine ⟨fun u hu => ?_, by rw [List.map_cons, h2, hi.ints]⟩
    rcases List.mem_cons.mp hu with e | hu
    · subst e
      exact ⟨ns, t', rfl, r, by simp, hi⟩
    · obtain ⟨ns', t2, z1, z2, z3, z4⟩ := h1 u hu
      exact ⟨ns', t2, z1, z2, by simp [z3], z4⟩
theorem bkV_fa2 {R : V → List Int → Prop} {g : Value → List Int} : ∀ {us : List Value}, (∀ u ∈ us, R (bkV u) (g u)) → Fa2 R (us.map bkV) (us.map g)
  | [], _ => .nil
  | u :: us, h => .cons (h u List.mem_cons_self) (bkV_fa2 fun y hy => h y (List.mem_cons_of_mem _ hy))
theorem cr_sortTup : CallR X (.builtin "sorted") (rSortTup X.K) := by
  intro pins s σ H vs us Q I r h
  obtain ⟨a, xs, nss, R, rfl, hs, hR, hf, hne, q⟩ := h
  obtain ⟨its, rv, hl, hz⟩ := I.list hs
  rw [Vals.ref1 r]
  obtain ⟨hv, hm⟩ := tups_vals I hR rv hf
  refine sorted_any (k := TS.intsOf s.heap) hl.isList (by rw [← rv.length]; exact hz) (fun v hm => ?_) fun out h1 h2 => ?_
  · obtain ⟨ns, t, _, _, m, ht⟩ := hv v hm
    rw [ht.ints]
    exact ⟨ht, hne ns m⟩
  · obtain ⟨ep, he'⟩ := PyProof.Rows.sortedAll_at s.heap its out.toArray
    have h3 := fun u (hu : u ∈ out) => hv u (h2.mem_iff.mp hu)
    have hlen : (out.map bkV).length ≤ sizeLine := by
      rw [List.length_map, h2.length_eq, ← rv.length]
      exact hz
    have es : out.map (TS.intsOf s.heap) = sortT nss := by
      refine sortT_uniq ?_ ?_
      · rw [← hm]
        exact h2.map _
      · rw [List.pairwise_map]
        exact h1
    have hfa : Fa2 R (out.map bkV) (sortT nss) := by
      rw [← es]
      refine bkV_fa2 fun u hu => ?_
      obtain ⟨ns, t, e, ht, _, hr⟩ := h3 u hu
      rw [hr.ints, e]
      exact ht
    exact ⟨.ref _, upd H (s.heap.objs.size + 1) (.lst (out.map bkV)), I.laid (t' := s.toks) (fun _ _ => PyProof.Rows.sortedAll_old) (Nat.le_succ _) ⟨hlen, out, ep, bkV_vals (fun u hu => let ⟨_, t, e, _⟩ := h3 u hu; ⟨t, e⟩), he'⟩, rfl, q _ _ hfa (I.hok.fresh (Nat.le_succ _))⟩
end
variable {X : Cx} {N : List Str} {sc : Scp} {k : Nat} {E : XK} {B : Bs} {Γ : List Slot}
theorem tupI_of {K : PySem.W.Frag} {F H : Hp} {v : V} {ns : List Int} (s : Same F H) (h : (tTup tInt).rel K F v ns) : TupI K H v ns := by
  obtain ⟨p, vs, e, q, r⟩ := h
  have := fa2_int r
  subst this
  exact ⟨p, e, seqT s q⟩
/-- sorted(xs) of tuples of ints -/
theorem wo_sortTup (C : XC X N sc k E) (Z : Fre X.mg) {e : Expr} {m : Out (List (List Int))} {p pos : Pos} (h : WE X E B Γ e (rLst (tTup tInt)) m) (hg : GlN sc "sorted" := by rfl) (he : starEach (e :: []) X.env = (false, eval e X.env) :: starEach [] X.env := by rfl) :
    WO X E B Γ (.Call (.Name "sorted" p) [e] [] pos) (oLst (tTup tInt)) (m >>= sortTO) := by
  refine cbO (R := rLst (tTup tInt)) C cr_sortTup Z.sorted (by decide +kernel) (fun F H x a Q J s hx po => ?_) h hg (he := he)
  obtain ⟨p, vs, e, q, r⟩ := hx
  unfold sortTO at po
  by_cases c : ∀ x ∈ a, x ≠ []
  · rw [if_pos c] at po
    exact ⟨p, vs, a, (tTup tInt).rel X.K F, by rw [e], q, fun v ns h => tupI_of s h, r, c, fun ys d hy hd => new_lst s hd hy po⟩
  · rw [if_neg c] at po
    exact po.elim
end SL

set_option Elab.async false
set_option linter.all false
set_option maxRecDepth 100000
set_option maxHeartbeats 2000000
/-! SLl: == of whole data; isinstance; index, count. -/
namespace SL
open PySem PySem.Spec PyProof.Rows L2
variable {X : Cx} {N : List Str} {sc : Scp} {k : Nat} {E : XK} {B : Bs} {Γ : List Slot}
/-! ### data as PyData -/
structure Code (α : Type) [DecidableEq α] where
  d : α → PyData
  n : Nat
  lay : ∀ a, (d a).canLay0 = true
  dep : ∀ a, (d a).depth ≤ n
  eqv : ∀ a b, PyData.eqv (d a) (d b) = decide (a = b)
def cInt : Code Int := ⟨.int, 0, fun _ => by simp [PyData.canLay0], fun _ => by simp [PyData.depth], fun a b => by
  simp only [PyData.eqv]
  by_cases h : a = b <;> simp [h]⟩
def cBool : Code Bool := ⟨.bool, 0, fun _ => by simp [PyData.canLay0], fun _ => by simp [PyData.depth], fun a b => by
  simp only [PyData.eqv]
  by_cases h : a = b <;> simp [h]⟩
theorem lay_all {α : Type} [DecidableEq α] (c : Code α) : ∀ xs : List α, PyData.canLayAll0 (xs.map c.d) = true
  | [] => by simp [PyData.canLayAll0]
  | x :: xs => by simp [PyData.canLayAll0, c.lay x, lay_all c xs]
theorem dep_all {α : Type} [DecidableEq α] (c : Code α) : ∀ xs : List α, PyData.depthAll (xs.map c.d) ≤ c.n
  | [] => by simp [PyData.depthAll]
  | x :: xs => by
    have h1 := c.dep x
    have h2 := dep_all c xs
    simp only [List.map_cons, PyData.depthAll]
    omega
theorem eqv_all {α : Type} [DecidableEq α] (c : Code α) : ∀ xs ys : List α, PyData.eqvAll (xs.map c.d) (ys.map c.d) = decide (xs = ys)
  | [], [] => by simp [PyData.eqvAll]
  | [], _ :: _ => by simp [PyData.eqvAll]
  | _ :: _, [] => by simp [PyData.eqvAll]
  | x :: xs, y :: ys => by
    simp only [List.map_cons, PyData.eqvAll, c.eqv, eqv_all c xs ys, List.cons.injEq]
    by_cases h : x = y <;> simp [h]
def cLst {α : Type} [DecidableEq α] (c : Code α) : Code (List α) := ⟨fun xs => .list (xs.map c.d), c.n + 1, fun xs => by simp [PyData.canLay0, lay_all], fun xs => by
  have := dep_all c xs
  simp only [PyData.depth]
  omega, fun a b => by simp only [PyData.eqv, eqv_all]⟩
def cTup {α : Type} [DecidableEq α] (c : Code α) : Code (List α) := ⟨fun xs => .tuple (xs.map c.d), c.n + 1, fun xs => by simp [PyData.canLay0, lay_all], fun xs => by
  have := dep_all c xs
  simp only [PyData.depth]
  omega, fun a b => by simp only [PyData.eqv, eqv_all]⟩
def cT2 {α β : Type} [DecidableEq α] [DecidableEq β] (c : Code α) (e : Code β) : Code (α × β) := ⟨fun x => .tuple [c.d x.1, e.d x.2], max c.n e.n + 1, fun x => by simp [PyData.canLay0, PyData.canLayAll0, c.lay, e.lay], fun x => by
  have h1 := c.dep x.1
  have h2 := e.dep x.2
  simp only [PyData.depth, PyData.depthAll]
  omega, fun a b => by
  obtain ⟨a1, a2⟩ := a
  obtain ⟨b1, b2⟩ := b
  simp only [PyData.eqv, PyData.eqvAll, c.eqv, e.eqv, Prod.mk.injEq]
  by_cases h : a1 = b1 <;> simp [h]⟩
def cT3 {α β γ : Type} [DecidableEq α] [DecidableEq β] [DecidableEq γ] (c : Code α) (e : Code β) (f : Code γ) : Code (α × β × γ) := ⟨fun x => .tuple [c.d x.1, e.d x.2.1, f.d x.2.2], max (max c.n e.n) f.n + 1, fun x => by simp [PyData.canLay0, PyData.canLayAll0, c.lay, e.lay, f.lay], fun x => by
  have h1 := c.dep x.1
  have h2 := e.dep x.2.1
  have h3 := f.dep x.2.2
  simp only [PyData.depth, PyData.depthAll]
  omega, fun a b => by
  obtain ⟨a1, a2, a3⟩ := a
  obtain ⟨b1, b2, b3⟩ := b
  simp only [PyData.eqv, PyData.eqvAll, c.eqv, e.eqv, f.eqv, Prod.mk.injEq]
  by_cases h : a1 = b1 <;> by_cases h2 : a2 = b2 <;> simp [h, h2]⟩
def cL2 {α β : Type} [DecidableEq α] [DecidableEq β] (c : Code α) (e : Code β) : Code (α × β) := ⟨fun x => .list [c.d x.1, e.d x.2], max c.n e.n + 1, fun x => by simp [PyData.canLay0, PyData.canLayAll0, c.lay, e.lay], fun x => by
  have h1 := c.dep x.1
  have h2 := e.dep x.2
  simp only [PyData.depth, PyData.depthAll]
  omega, fun a b => by
  obtain ⟨a1, a2⟩ := a
  obtain ⟨b1, b2⟩ := b
  simp only [PyData.eqv, PyData.eqvAll, c.eqv, e.eqv, Prod.mk.injEq]
  by_cases h : a1 = b1 <;> simp [h]⟩
def cL3 {α β γ : Type} [DecidableEq α] [DecidableEq β] [DecidableEq γ] (c : Code α) (e : Code β) (f : Code γ) : Code (α × β × γ) := ⟨fun x => .list [c.d x.1, e.d x.2.1, f.d x.2.2], max (max c.n e.n) f.n + 1, fun x => by simp [PyData.canLay0, PyData.canLayAll0, c.lay, e.lay, f.lay], fun x => by
  have h1 := c.dep x.1
  have h2 := e.dep x.2.1
  have h3 := f.dep x.2.2
  simp only [PyData.depth, PyData.depthAll]
  omega, fun a b => by
  obtain ⟨a1, a2, a3⟩ := a
  obtain ⟨b1, b2, b3⟩ := b
  simp only [PyData.eqv, PyData.eqvAll, c.eqv, e.eqv, f.eqv, Prod.mk.injEq]
  by_cases h : a1 = b1 <;> by_cases h2 : a2 = b2 <;> simp [h, h2]⟩
/-- a type's data by a code -/
def DpT {α : Type} (T : Ty α) (d : α → PyData) : Prop := ∀ K F v a, T.rel K F v a → Dp K F v (d a)
theorem dp_int : DpT tInt cInt.d := fun K F v a h => by
  rw [show v = .int a from h]
  exact .int a
theorem dp_bool : DpT tBool cBool.d := fun K F v a h => by
  rw [show v = .bl a from h]
  exact .bl a
theorem dp_all {α : Type} {T : Ty α} {d : α → PyData} (h : DpT T d) {K : PySem.W.Frag} {F F' : Hp} (s : Same F F') {vs : List V} {as : List α} (r : Fa2 (T.rel K F) vs as) : DpAll K F' vs (as.map d) := by
  induction r with
  | nil => exact .nil
  | cons q _ ih => exact .cons (dp_mono s (h _ _ _ _ q)) ih
theorem dp_lst {α : Type} {T : Ty α} {d : α → PyData} (h : DpT T d) : DpT (tLst T) (fun xs => .list (xs.map d)) := fun K F v a ⟨p, vs, e, q, r⟩ => by
  rw [e]
  exact .lst (SqL.of q) (dp_all h (Same.refl F) r)
theorem dp_tup {α : Type} {T : Ty α} {d : α → PyData} (h : DpT T d) : DpT (tTup T) (fun xs => .tuple (xs.map d)) := fun K F v a ⟨p, vs, e, q, r⟩ => by
  rw [e]
  exact .tup q (dp_all h (Same.refl F) r)
section
variable {α β γ : Type} {T : Ty α} {U : Ty β} {W : Ty γ} {c : α → PyData} {d : β → PyData} {f : γ → PyData}
theorem dp_t2 (h1 : DpT T c) (h2 : DpT U d) : DpT (tT2 T U) (fun x => .tuple [c x.1, d x.2]) := fun K F v a ⟨p, v1, v2, e, q, r1, r2⟩ => by
  rw [e]
  exact .tup q (.cons (h1 _ _ _ _ r1) (.cons (h2 _ _ _ _ r2) .nil))
theorem dp_t3 (h1 : DpT T c) (h2 : DpT U d) (h3 : DpT W f) : DpT (tT3 T U W) (fun x => .tuple [c x.1, d x.2.1, f x.2.2]) := fun K F v a ⟨p, v1, v2, v3, e, q, r1, r2, r3⟩ => by
  rw [e]
  exact .tup q (.cons (h1 _ _ _ _ r1) (.cons (h2 _ _ _ _ r2) (.cons (h3 _ _ _ _ r3) .nil)))
theorem dp_l2 (h1 : DpT T c) (h2 : DpT U d) : DpT (tL2 T U) (fun x => .list [c x.1, d x.2]) := fun K F v a ⟨p, v1, v2, e, q, r1, r2⟩ => by
  rw [e]
  exact .lst (SqL.of q) (.cons (h1 _ _ _ _ r1) (.cons (h2 _ _ _ _ r2) .nil))
theorem dp_l3 (h1 : DpT T c) (h2 : DpT U d) (h3 : DpT W f) : DpT (tL3 T U W) (fun x => .list [c x.1, d x.2.1, f x.2.2]) := fun K F v a ⟨p, v1, v2, v3, e, q, r1, r2, r3⟩ => by
  rw [e]
  exact .lst (SqL.of q) (.cons (h1 _ _ _ _ r1) (.cons (h2 _ _ _ _ r2) (.cons (h3 _ _ _ _ r3) .nil)))
end
/-- .. by both heaps -/
def DpR {α : Type} (R : Rl α) (d : α → PyData) : Prop := ∀ K F H v a, Same F H → R.rel K F H v a → Dp K H v (d a)
theorem DpT.r {α : Type} {T : Ty α} {d : α → PyData} (h : DpT T d) : DpR T.rl d := fun K F H v a s r => dp_mono s (h _ _ _ _ r)
theorem dp_rl {α : Type} {T : Ty α} {d : α → PyData} (h : DpT T d) : DpR (rLst T) (fun xs => .list (xs.map d)) := fun K F H v a s ⟨p, vs, e, q, r⟩ => by
  rw [e]
  exact .lst q (dp_all h s r)
section
variable {e1 e2 : Expr} {α : Type} [DecidableEq α] {R S : Rl α} {m1 m2 : Out α} {pos : Pos}
theorem shp (c : Code α) (h : c.n ≤ 64) (a : α) : SeqAt.shaped (c.d a) = true := by
  unfold SeqAt.shaped
  rw [c.lay, Bool.true_and, decide_eq_true_eq]
  exact Nat.le_trans (c.dep a) h
theorem v_eqD {K : PySem.W.Frag} (c : Code α) (hn : c.n ≤ 64) (r1 : DpR R c.d) (r2 : DpR S c.d) : VOp K (rEqD K) R S tBool.rl (fun a b => pure (decide (a = b))) := fun F H x y a b Q J s h1 h2 p =>
  ⟨c.d a, c.d b, r1 _ _ _ _ _ s h1, r2 _ _ _ _ _ s h2, shp c hn a, shp c hn b, by rw [c.eqv]; exact p _ F H (Stp.refl s) rfl⟩
theorem v_neD {K : PySem.W.Frag} (c : Code α) (hn : c.n ≤ 64) (r1 : DpR R c.d) (r2 : DpR S c.d) : VOp K (rNeD K) R S tBool.rl (fun a b => pure (!decide (a = b))) := fun F H x y a b Q J s h1 h2 p =>
  ⟨c.d a, c.d b, r1 _ _ _ _ _ s h1, r2 _ _ _ _ _ s h2, shp c hn a, shp c hn b, by rw [c.eqv]; exact p _ F H (Stp.refl s) rfl⟩
theorem hu64 (C : XC X N sc k E) : X.A.units + 64 < cLine := by have := C.room.un; omega
theorem we_eqD (C : XC X N sc k E) (c : Code α) (r1 : DpR R c.d) (r2 : DpR S c.d) (h1 : WE X E B Γ e1 R m1) (h2 : WE X E B Γ e2 S m2) (hn : c.n ≤ 64 := by decide) : WE X E B Γ (.Compare e1 [.Eq] [e2] pos) tBool.rl (m1 >>= fun a => m2 >>= fun b => pure (decide (a = b))) := we_cmp (op_eqD (hu64 C)) (v_eqD c hn r1 r2) (nomark _) h1 h2
theorem wt_eqD (C : XC X N sc k E) (c : Code α) (r1 : DpR R c.d) (r2 : DpR S c.d) (h1 : WE X E B Γ e1 R m1) (h2 : WE X E B Γ e2 S m2) (hn : c.n ≤ 64 := by decide) : WT X E B Γ (.Compare e1 [.Eq] [e2] pos) (m1 >>= fun a => m2 >>= fun b => pure (decide (a = b))) := wt_cmp (op_eqD (hu64 C)) (v_eqD c hn r1 r2) (nomark _) h1 h2
theorem we_neD (C : XC X N sc k E) (c : Code α) (r1 : DpR R c.d) (r2 : DpR S c.d) (h1 : WE X E B Γ e1 R m1) (h2 : WE X E B Γ e2 S m2) (hn : c.n ≤ 64 := by decide) : WE X E B Γ (.Compare e1 [.NotEq] [e2] pos) tBool.rl (m1 >>= fun a => m2 >>= fun b => pure (!decide (a = b))) := we_cmp (op_neD (hu64 C)) (v_neD c hn r1 r2) (nomark _) h1 h2
theorem wt_neD (C : XC X N sc k E) (c : Code α) (r1 : DpR R c.d) (r2 : DpR S c.d) (h1 : WE X E B Γ e1 R m1) (h2 : WE X E B Γ e2 S m2) (hn : c.n ≤ 64 := by decide) : WT X E B Γ (.Compare e1 [.NotEq] [e2] pos) (m1 >>= fun a => m2 >>= fun b => pure (!decide (a = b))) := wt_cmp (op_neD (hu64 C)) (v_neD c hn r1 r2) (nomark _) h1 h2
end

/-! ### isinstance -/
/-- things of this kind are of the built-in type t -/
def TyR {α : Type} (R : Rl α) (t : α → String) : Prop := ∀ K F H v a, Same F H → R.rel K F H v a → TyX K H v (.type (t a))
theorem ty_int : TyR tInt.rl fun _ => "int" := fun K F H v a s h => by rw [show v = .int a from h]; exact .base (.int a)
theorem ty_bool : TyR tBool.rl fun _ => "bool" := fun K F H v a s h => by rw [show v = .bl a from h]; exact .base (.bl a)
theorem ty_str : TyR tStr.rl fun _ => "str" := fun K F H v a s h => by rw [show v = .str a from h]; exact .base (.str a)
theorem tyx_tup {K : PySem.W.Frag} {H : Hp} {p : Addr} {vs : List V} (h : SqT K H p vs) : TyX K H (.ref p) (.type "tuple") := by
  rcases h with (h | ⟨o, h⟩) | ⟨o, its, n, hk, hc, _⟩
  · exact .base (.tup h)
  · exact .fTuple h
  · exact .kTuple hk hc
theorem tyx_lst {K : PySem.W.Frag} {H : Hp} {p : Addr} {vs : List V} (h : SqL K H p vs) : TyX K H (.ref p) (.type "list") := by
  rcases h with (h | ⟨o, h⟩) | ⟨o, its, n, hk, hc, _⟩
  · exact .base (.lst h)
  · exact .base (.frz h)
  · exact .kList hk hc
theorem ty_tup {α : Type} {T : Ty α} : TyR (tTup T).rl fun _ => "tuple" := fun K F H v a s ⟨p, vs, e, q, r⟩ => by rw [e]; exact tyx_tup (seqT s q)
theorem ty_lst {α : Type} {T : Ty α} : TyR (tLst T).rl fun _ => "list" := fun K F H v a s ⟨p, vs, e, q, r⟩ => by rw [e]; exact tyx_lst (SqL.of (s _ _ q))
theorem ty_t2 {α β : Type} {T : Ty α} {U : Ty β} : TyR (tT2 T U).rl fun _ => "tuple" := fun K F H v a s ⟨p, v1, v2, e, q, r⟩ => by rw [e]; exact tyx_tup (seqT s q)
theorem ty_t3 {α β γ : Type} {T : Ty α} {U : Ty β} {W : Ty γ} : TyR (tT3 T U W).rl fun _ => "tuple" := fun K F H v a s ⟨p, v1, v2, v3, e, q, r⟩ => by rw [e]; exact tyx_tup (seqT s q)
theorem ty_t1 {α : Type} {T : Ty α} : TyR (tT1 T).rl fun _ => "tuple" := fun K F H v a s ⟨p, v1, e, q, r⟩ => by rw [e]; exact tyx_tup (seqT s q)
def tyD : PyData → String
  | .none => "NoneType" | .bool _ => "bool" | .int _ => "int" | .str _ => "str" | .list _ => "list" | .tuple _ => "tuple" | .dict _ => "dict"
theorem ty_D : TyR tD.rl tyD := fun K F H v a s h => by
  have h : Dp K F v a := h
  cases h with
  | non => exact .base .non
  | bl b => exact .base (.bl b)
  | int b => exact .base (.int b)
  | str b => exact .base (.str b)
  | lst q r => exact tyx_lst (s.seq q)
  | tup q r => exact tyx_tup (seqT s q)
/-- isinstance(e, c), c a built-in type -/
theorem we_isi (C : XC X N sc k E) (Z : Fre X.mg) {e : Expr} {α : Type} {R : Rl α} {m : Out α} {c : Str} {cn : String} {p p2 pos : Pos} {t : α → String} (b : α → Bool) (ty : TyR R t) (hb : ∀ a, kitB (t a) cn = some (b a)) (h : WE X E B Γ e R m)
    (hc : X.mg c = none) (hv : bootBuiltins c = some (.type cn)) (hg : GlN sc "isinstance" := by rfl) (hg2 : GlN sc c := by rfl) (hn : c ≠ "__name__" := by decide) (hd : (c == ("__debug__" : Str)) = false := by decide)
    (he : starEach (e :: .Name c p2 :: []) X.env = (false, eval e X.env) :: starEach (.Name c p2 :: []) X.env := by rfl) (he2 : starEach (.Name c p2 :: []) X.env = (false, eval (.Name c p2) X.env) :: starEach [] X.env := by rfl)
    (hpl : (backTo pos (starEach (.Name c p2 :: []) X.env)).any (·.1) = false := by rfl) :
    WE X E B Γ (.Call (.Name "isinstance" p) [e, .Name c p2] [] pos) tBool.rl (m >>= fun a => pure (b a)) := fun σ F H ω Q en q =>
  ⟨_, pe_callB call_isi (gl_ C hg) Z.isinstance (by decide +kernel) (pa_cons pe_s (pa_cons (pe_bltn (v := .ty cn) (gl_ C hg2) hc hv rfl hn hd) pa_nil he2) he) (he := he) (hpl := hpl),
    h σ F H ω _ en (q.bind.imp fun a q v F' H' s rv => ⟨v, .ty cn, .type (t a), .type cn, b a, rfl, .ty cn, ty _ _ _ _ _ s.fh rv, kit_ty (hb a), q _ F' H' s rfl⟩)⟩
/-- isinstance(e, (c1, c2)) -/
theorem we_isi2 (C : XC X N sc k E) (Z : Fre X.mg) {e : Expr} {α : Type} {R : Rl α} {m : Out α} {c d : Str} {cn dn : String} {j : Nat} {p p2 p3 p4 pos : Pos} {t : α → String} (b b2 : α → Bool) (ty : TyR R t) (hb : ∀ a, kitB (t a) cn = some (b a)) (hb2 : ∀ a, kitB (t a) dn = some (b2 a)) (h : WE X E B Γ e R m)
    (hc : X.mg c = none) (hv : bootBuiltins c = some (.type cn)) (hc2 : X.mg d = none) (hv2 : bootBuiltins d = some (.type dn)) (hg : GlN sc "isinstance" := by rfl) (hg2 : GlN sc c := by rfl) (hg3 : GlN sc d := by rfl) (hn : c ≠ "__name__" := by decide) (hd : (c == ("__debug__" : Str)) = false := by decide)
    (hn2 : d ≠ "__name__" := by decide) (hd2 : (d == ("__debug__" : Str)) = false := by decide)
    (he : starEach (e :: .Tuple [.Name c p2, .Name d p3] j p4 :: []) X.env = (false, eval e X.env) :: starEach (.Tuple [.Name c p2, .Name d p3] j p4 :: []) X.env := by rfl) (he2 : starEach (.Tuple [.Name c p2, .Name d p3] j p4 :: []) X.env = (false, eval (.Tuple [.Name c p2, .Name d p3] j p4) X.env) :: starEach [] X.env := by rfl)
    (hpl : (backTo pos (starEach (.Tuple [.Name c p2, .Name d p3] j p4 :: []) X.env)).any (·.1) = false := by rfl)
    (ht : starEach (.Name c p2 :: .Name d p3 :: []) X.env = (false, eval (.Name c p2) X.env) :: starEach (.Name d p3 :: []) X.env := by rfl) (ht2 : starEach (.Name d p3 :: []) X.env = (false, eval (.Name d p3) X.env) :: starEach [] X.env := by rfl) :
    WE X E B Γ (.Call (.Name "isinstance" p) [e, .Tuple [.Name c p2, .Name d p3] j p4] [] pos) tBool.rl (m >>= fun a => pure (b a || b2 a)) := fun σ F H ω Q en q =>
  ⟨_, pe_callB call_isiT (gl_ C hg) Z.isinstance (by decide +kernel) (pa_cons pe_s (pa_cons (pe_tup (pa_cons (pe_bltn (v := .ty cn) (gl_ C hg2) hc hv rfl hn hd) (pa_cons (pe_bltn (v := .ty dn) (gl_ C hg3) hc2 hv2 rfl hn2 hd2) pa_nil ht2) ht)) pa_nil he2) he) (he := he) (hpl := hpl),
    h σ F H ω _ en (q.bind.imp fun a q v F' H' s rv => ⟨le_line (by simp), fun tp htp => by
      have s2 := Stp.newH (o := .tup [.ty cn, .ty dn]) s.fh htp
      refine ⟨v, tp, [.ty cn, .ty dn], .type (t a), [.type cn, .type dn], b a || b2 a, rfl, upd_same, .cons (.ty cn) (.cons (.ty dn) .nil), ty _ _ _ _ _ s2.fh (R.mono s2 rv), ?_, q _ F' _ (s.trans s2) rfl⟩
      refine kitAny_cons (kit_ty (hb a)) (fun e => ?_) (fun e => by rw [e]; rfl)
      rw [e, Bool.false_or]
      exact kitAny_cons (kit_ty (hb2 a)) (fun e => by rw [e]; rfl) (fun e => e)⟩)⟩
end SL

set_option Elab.async false
set_option linter.all false
set_option maxRecDepth 100000
set_option maxHeartbeats 2000000
/-! SLm: index; comprehensions of two clauses. -/
namespace SL
open PySem PySem.Spec PyProof.Rows L2
variable {X : Cx} {N : List Str} {sc : Scp} {k : Nat} {E : XK} {B : Bs} {Γ : List Slot}
/-! ### xs.index(e) -/
def indexO {α : Type} [DecidableEq α] (xs : List α) (x : α) : Out Int := if x ∈ xs then pure ((xs.findIdx (fun y => decide (y = x)) : Nat) : Int) else .stuck
theorem fa2_find {K : PySem.W.Frag} {F : Hp} {α : Type} [DecidableEq α] {T : Ty α} (q : EqF T) {y : V} {x : α} (hy : T.rel K F y x) : ∀ {vs : List V} {as : List α}, Fa2 (T.rel K F) vs as → x ∈ as →
    ∃ z, vs[as.findIdx (fun a => decide (a = x))]? = some z ∧ eqV z y = true ∧ ∀ (m : Nat) (z' : V), m < as.findIdx (fun a => decide (a = x)) → vs[m]? = some z' → eqV z' y = false
  | _, _, .nil, h => by simp at h
  | v :: vs, a :: as, .cons r t, h => by
    have e := (q K F y v x a hy r).2
    by_cases c : a = x
    · subst c
      refine ⟨v, by simp [List.findIdx_cons], by rw [e]; simp, fun m z' hm hz => ?_⟩
      simp [List.findIdx_cons] at hm
    · have h2 : x ∈ as := by
        rcases List.mem_cons.mp h with z | z
        · exact absurd z.symm c
        · exact z
      obtain ⟨z, h3, h4, h5⟩ := fa2_find q hy t h2
      have ei : (a :: as).findIdx (fun b => decide (b = x)) = as.findIdx (fun b => decide (b = x)) + 1 := by
        rw [List.findIdx_cons]
        simp [c]
      rw [ei]
      refine ⟨z, by simpa using h3, h4, fun m z' hm hz => ?_⟩
      cases m with
      | zero =>
        simp at hz
        subst hz
        rw [e]
        exact decide_eq_false (fun z => c z.symm)
      | succ m => exact h5 m z' (by omega) (by simpa using hz)
theorem we_indexL (C : XC X N sc k E) {o e : Expr} {α : Type} [DecidableEq α] {T : Ty α} {m : Out (List α)} {m2 : Out α} {p2 p3 : Pos} (q : EqF T) (h : WE X E B Γ o (rLst T) m) (h2 : WE X E B Γ e T.rl m2)
    (hbase : attributeBase o "index" X.env (eval o X.env) = eval o X.env := by rfl)
    (hfew : ((backTo p3 (starEach (e :: []) X.env)).all (fun x => !x.1) && (backToKw p3 (keywordEach [] X.env)).all (fun x => x.1.isSome) && decide ((e :: []).length + ([] : List Keyword).length + (if ([] : List Keyword).isEmpty then 0 else 1) < 30)) = true := by rfl)
    (hline : (p2.endLine == p3.line) = true := by rfl) (hs : starEach (e :: []) X.env = (false, eval e X.env) :: starEach [] X.env := by rfl) :
    WE X E B Γ (.Call (.Attribute o "index" p2) [e] [] p3) tInt.rl (m >>= fun a => m2 >>= fun b => indexO a b) := fun σ F H ω Q en po => by
  refine ⟨_, pe_bm PySem.F.plainAttrs_list PySem.F.slot_list_index PySem.F.type_list_index mt_index pe_s (pa_cons pe_s pa_nil hs) hbase hfew hline hs, ?_⟩
  refine h σ F H ω _ en (po.bind.imp fun xs po v F1 H1 s1 ⟨p, vs, e, sq, r⟩ => ?_)
  subst e
  refine ⟨.inl ⟨rfl, vs, sq⟩, ?_⟩
  refine h2 σ F1 H1 ω _ (en.stp s1) (po.bind.imp fun x po y F2 H2 s2 ry => ?_)
  unfold indexO at po
  by_cases c : x ∈ xs
  · rw [if_pos c] at po
    have r2 : Fa2 (T.rel X.K F2) vs xs := r.imp fun _ _ => T.mono s2.ff
    obtain ⟨z, h3, h4, h5⟩ := fa2_find q ry r2 c
    obtain ⟨f1, _⟩ := inV_eq q ry r2
    exact ⟨p, vs, y, _, z, rfl, rfl, s2.hh.seq sq, (q _ F2 y y x x ry ry).1, f1, h3, h4, h5, po _ F2 H2 (s1.trans s2) rfl⟩
  · rw [if_neg c] at po
    exact po.elim

/-! ### [elt for tg in iter if .. for tg1 in iter1 if ..] -/
/-- the pairs of both walks, in order -/
def comp2O {α β γ : Type} (f : α → Out (List β)) (g : α → β → Out (Option γ)) : List α → Out (List γ)
  | [] => pure []
  | x :: xs => match f x with
    | .ok ys => (match compO (g x) ys with
      | .ok bs => (match comp2O f g xs with
        | .ok cs => .ok (bs ++ cs)
        | _ => .stuck)
      | _ => .stuck)
    | _ => .stuck
theorem comp2_cons {α β γ : Type} {f : α → Out (List β)} {g : α → β → Out (Option γ)} {x : α} {xs : List α} {r : List γ} (h : comp2O f g (x :: xs) = .ok r) : ∃ ys bs cs, f x = .ok ys ∧ compO (g x) ys = .ok bs ∧ comp2O f g xs = .ok cs ∧ r = bs ++ cs := by
  unfold comp2O at h
  cases e1 : f x with
  | ok ys =>
    simp only [e1] at h
    cases e2 : compO (g x) ys with
    | ok bs =>
      simp only [e2] at h
      cases e3 : comp2O f g xs with
      | ok cs =>
        simp only [e3] at h
        cases h
        exact ⟨ys, bs, cs, rfl, e2, rfl, rfl⟩
      | err z => simp only [e3] at h; cases h
      | stuck => simp only [e3] at h; cases h
    | err z => simp only [e2] at h; cases h
    | stuck => simp only [e2] at h; cases h
  | err z => rw [e1] at h; cases h
  | stuck => rw [e1] at h; cases h
/-- lists that the machine holds -/
def limO {α : Type} (xs : List α) : Out (List α) := if xs.length ≤ 16777216 then pure xs else .stuck
theorem comp_cons {α β : Type} {f : α → Out (Option β)} {a : α} {xs : List α} {r : List β} (h : compO f (a :: xs) = .ok r) : (f a = .ok none ∧ compO f xs = .ok r) ∨ ∃ b r2, f a = .ok (some b) ∧ compO f xs = .ok r2 ∧ r = b :: r2 := by
  unfold compO at h
  cases e : f a with
  | ok o =>
    rw [e] at h
    cases o with
    | none => exact .inl ⟨rfl, h⟩
    | some b =>
      cases e2 : compO f xs with
      | ok r2 =>
        simp only [e2] at h
        cases h
        exact .inr ⟨b, r2, rfl, rfl, rfl⟩
      | err x => simp only [e2] at h; cases h
      | stuck => simp only [e2] at h; cases h
  | err x => rw [e] at h; cases h
  | stuck => rw [e] at h; cases h
/-- an address that nobody knows is written -/
theorem env_updN {K : PySem.W.Frag} {Γ : List Slot} {σ : L2.St} {F H : Hp} {ω : Ow} {D : Addr} {o : HO} (e : EnvOk K B Γ σ F H ω) (h1 : ω D = none) (h2 : B.H D = none) (h3 : F D = none) : EnvOk K B Γ σ F (upd H D o) ω := by
  refine ⟨⟨e.base.ff, fun a u h => ?_, fun a u h n => ?_, fun a h => ?_, e.base.old⟩, e.len, fun a i h => ?_, fun i s h => Slot.keep (e.slot i s h) (Same.refl F) fun p hp => upd_ne fun z => ?_⟩
  · rw [upd_ne (fun z => by rw [z, h3] at h; cases h)]
    exact e.base.fh a u h
  · rw [upd_ne (fun z => by rw [z, h2] at h; cases h)]
    exact e.base.hh a u h n
  · by_cases c : a = D
    · rw [c, upd_same]
      exact fun z => nomatch z
    · rw [upd_ne c]
      exact e.base.there a h
  · obtain ⟨x, y, z⟩ := e.own a i h
    refine ⟨x, ?_, z⟩
    rw [upd_ne (fun z => by rw [z, h1] at h; cases h)]
    exact y
  · rw [z, h1] at hp
    cases hp
section
variable {tg iter tg1 iter1 elt : Expr} {ifs1 : List Expr} {scope : Scope} {own : List (Str × Nat)} {vs1 : List Nat} {pos p : Pos} {α β γ : Type} {T : Ty α} {S : Ty β} {U : Ty γ} {mi : Out (List α)} {ix ix1 : List Nat} {g : α → List Slot → List Slot} {g1 : β → List Slot → List Slot} {mi1 : α → Out (List β)} {mc : α → β → Out Bool} {m : α → β → Out γ}
theorem lc2_read (C : XC X N sc k E) (hv1 : ∀ j ∈ vs1, j ∈ own.map (·.2)) (hit : WIs X E B Γ tg iter T mi) (hix : ∀ j ∈ ix, j ∈ own.map (·.2)) (hg : ∀ s H' Cc cl fp, WG (bx X scope s H' Cc cl fp) B tg T ix g)
    (hit1 : ∀ s H' Cc cl fp a, WI (bx X scope s H' Cc cl fp) E0 B (g a (wipeS Γ (own.map (·.2)))) tg1 iter1 S (mi1 a)) (hix1 : ∀ j ∈ ix1, j ∈ vs1) (hg1 : ∀ s H' Cc cl fp, WG (bx X scope s H' Cc cl fp) B tg1 S ix1 g1)
    (hc : ∀ s H' Cc cl fp a b, WTs (bx X scope s H' Cc cl fp) E0 B (g1 b (wipeS (g a (wipeS Γ (own.map (·.2)))) vs1)) ifs1 (mc a b)) (he : ∀ s H' Cc cl fp a b, WE (bx X scope s H' Cc cl fp) E0 B (g1 b (wipeS (g a (wipeS Γ (own.map (·.2)))) vs1)) elt U.rl (m a b))
    {σ : L2.St} {F H : Hp} {ω : Ow} {Q : VK} (en : EnvOk X.K B Γ σ F H ω) (po : Post (mi >>= fun xs => comp2O mi1 (fun a b => ifO (mc a b) (m a b)) xs >>= limO) (fun bs => ∀ v F' H' S, Stp F H F' H' → (∀ p, S p → F' p = none ∧ H' p ≠ none ∧ H p = none) → (oLst U).rel X.K F' H' S v bs → Q v H') (RB X.K B E)) :
    tLc2 (sI X tg iter) (uG X scope tg) (uT X scope []) (uI X scope tg1 iter1) (uG X scope tg1) (uT X scope ifs1) (uE X scope elt) (own.map (·.2)) vs1 σ H Q := by
  refine hit σ F H ω _ en (po.bind.imp fun xs q J F1 H1 s1 tw hl D hD => ?_)
  have hD0 : H D = none := s1.hh.free hD
  have hF1 : F1 D = none := s1.fh.free hD
  obtain ⟨bs, hb, hbl, q⟩ : ∃ bs, comp2O mi1 (fun a b => ifO (mc a b) (m a b)) xs = .ok bs ∧ bs.length ≤ 16777216 ∧ ∀ v F' H' S, Stp F H F' H' → (∀ p, S p → F' p = none ∧ H' p ≠ none ∧ H p = none) → (oLst U).rel X.K F' H' S v bs → Q v H' := by
    cases e : comp2O mi1 (fun a b => ifO (mc a b) (m a b)) xs with
    | ok bs =>
      rw [e] at q
      have q : Post (limO bs) _ _ := q
      unfold limO at q
      by_cases c : bs.length ≤ 16777216
      · rw [if_pos c] at q
        exact ⟨bs, rfl, c, q⟩
      · rw [if_neg c] at q
        exact q.elim
    | err x =>
      exfalso
      have : ∀ ys : List α, comp2O mi1 (fun a b => ifO (mc a b) (m a b)) ys ≠ .err x := by
        intro ys z
        cases ys with
        | nil => cases z
        | cons y ys =>
          unfold comp2O at z
          split at z
          · split at z
            · split at z <;> cases z
            · cases z
          · cases z
      exact this xs e
    | stuck => rw [e] at q; exact q.elim
  have enw := env_wipe (en.stp s1) (own.map (·.2))
  -- what stands in the new list: acc; its length is bounded by the reader's own bound at each append
  refine ⟨fun i mm H' => mm = xs.length - i ∧ i ≤ xs.length ∧ ∃ F' vs acc rest, Stp F1 H1 F' H' ∧ F' D = none ∧ H' D = some (.lst vs) ∧ Fa2 (U.rel X.K F') vs acc ∧ comp2O mi1 (fun a b => ifO (mc a b) (m a b)) (xs.drop i) = .ok rest ∧ bs = acc ++ rest,
    ⟨xs.length, by simp, Nat.zero_le _, F1, [], [], bs, Stp.newH s1.fh hD, hF1, upd_same, .nil, by rw [List.drop_zero]; exact hb, rfl⟩, ?_⟩
  rintro i mm H' ⟨rfl, hi, F', vs, acc, rest, s', hF', hH', ra, hr, ebs⟩
  by_cases hlt : i < xs.length
  · refine .inr ⟨tw.goes i F' H' hlt s'.ff s'.fh ((en.base.stp s1).stp s') (fun _ => s'.hh), _, fun H2 h => h, fun x H2 y => ?_⟩
    obtain ⟨F2, a, s2, ea, rx⟩ := tw.yields i F' H' x H2 hlt s'.ff s'.fh ((en.base.stp s1).stp s') (fun _ => s'.hh) y
    have ed : xs.drop i = a :: xs.drop (i + 1) := by
      rw [List.getElem?_eq_getElem hlt] at ea
      rw [List.drop_eq_getElem_cons hlt, Option.some.inj ea]
    rw [ed] at hr
    obtain ⟨ys, b1, c1, e1, e2, e3, e4⟩ := comp2_cons hr
    have s3 := s'.trans s2
    have hF2 : F2 D = none := s2.old D hF' (by rw [hH']; exact fun z => nomatch z)
    have hH2 : H2 D = some (.lst vs) := s2.hh _ _ hH'
    intro sb Hb Cb clb fpb
    refine hg sb Hb Cb clb fpb _ F2 H2 ω _ x a _ (enw.stp s3) rx fun σ2 ω2 k2 l2 o2 en2 => ?_
    refine ⟨(wipe_eq k2 l2 hix).trans (wipe_wipe _ _), ?_⟩
    intro sc2 Hc2 Cc2 clc2 fpc2
    refine ⟨_, pts_nil, ?_⟩
    simp only [if_true]
    intro sd Hd Cd cld fpd
    refine hit1 sd Hd Cd cld fpd a σ2 F2 H2 ω2 _ en2 ?_
    rw [e1]
    intro J1 F3 H3 s4 tw1 hl1
    have s34 := s3.trans s4
    have hF3 : F3 D = none := s4.old D hF2 (by rw [hH2]; exact fun z => nomatch z)
    have hH3 : H3 D = some (.lst vs) := s4.hh _ _ hH2
    have en3 := en2.stp s4
    have enw1 := env_wipe en3 vs1
    have hω2 : ω2 D = none := o2 D (by
      cases h : ω D with
      | none => rfl
      | some i => exact absurd hD0 (en.own D i h).2.1)
    have hBD : B.H D = none := by
      cases h : B.H D with
      | none => rfl
      | some o => exact absurd hD0 (en.base.there D (by rw [h]; exact fun z => nomatch z))
    refine ⟨fun j kk H' => kk = ys.length - j ∧ j ≤ ys.length ∧ ∃ F' vs acc1 rest1, Same F3 F' ∧ EnvOk X.K B (wipeS (g a (wipeS Γ (own.map (·.2)))) vs1) (wipe σ2 vs1) F' H' ω2 ∧ Stp F1 H1 F' H' ∧ F' D = none ∧ H' D = some (.lst vs) ∧ Fa2 (U.rel X.K F') vs (acc ++ acc1) ∧ compO (fun b => ifO (mc a b) (m a b)) (ys.drop j) = .ok rest1 ∧ b1 = acc1 ++ rest1, ⟨ys.length, by simp, Nat.zero_le _, F3, vs, [], b1, Same.refl F3, enw1, s34, hF3, hH3, by rw [List.append_nil]; exact ra.imp fun _ _ => U.mono (s2.trans s4).ff, by rw [List.drop_zero]; exact e2, rfl⟩, ?_⟩
    rintro j kk H4 ⟨rfl, hj, F4, vs4, acc1, rest1, sa, ea4, sb4, hF4, hH4, ra4, hr4, eb1⟩
    by_cases hjl : j < ys.length
    · refine .inr ⟨tw1.goes j F4 H4 hjl sa sb4.fh ea4.base False.elim, _, fun H2 h => h, fun x1 H5 y5 => ?_⟩
      obtain ⟨F5, b, s5, eb, rx5⟩ := tw1.yields j F4 H4 x1 H5 hjl sa sb4.fh ea4.base False.elim y5
      have ed5 : ys.drop j = b :: ys.drop (j + 1) := by
        rw [List.getElem?_eq_getElem hjl] at eb
        rw [List.drop_eq_getElem_cons hjl, Option.some.inj eb]
      rw [ed5] at hr4
      have hF5 : F5 D = none := s5.old D hF4 (by rw [hH4]; exact fun z => nomatch z)
      have hH5 : H5 D = some (.lst vs4) := s5.hh _ _ hH4
      have ea5 := ea4.stp s5
      intro se He Ce cle fpe
      refine hg1 se He Ce cle fpe _ F5 H5 ω2 _ x1 b _ ea5 rx5 fun σ6 ω6 k6 l6 _ en6 => ?_
      refine ⟨(wipe_eq k6 l6 hix1).trans (wipe_wipe _ _), ?_⟩
      intro sf Hf Cf clf fpf
      rcases comp_cons hr4 with ⟨i1, i2⟩ | ⟨c, r2, i1, i2, i3⟩
      · have hm := ifO_none i1
        refine hc sf Hf Cf clf fpf a b σ6 F5 H5 ω6 _ en6 ?_
        rw [hm]
        intro F6 H6 s6
        simp only [Bool.false_eq_true, if_false]
        exact ⟨ys.length - (j + 1), by omega, rfl, hjl, F6, vs4, acc1, rest1, (sa.trans s5.ff).trans s6.ff, ea5.stp s6, (sb4.trans s5).trans s6, s6.old D hF5 (by rw [hH5]; exact fun z => nomatch z), s6.hh _ _ hH5, ra4.imp fun _ _ => U.mono (s5.trans s6).ff, i2, eb1⟩
      · obtain ⟨hm, hv⟩ := ifO_some i1
        refine hc sf Hf Cf clf fpf a b σ6 F5 H5 ω6 _ en6 ?_
        rw [hm]
        intro F6 H6 s6
        simp only [if_true]
        intro sg Hg Cg clg fpg
        refine he sg Hg Cg clg fpg a b σ6 F6 H6 ω6 _ (en6.stp s6) ?_
        rw [hv]
        intro v F7 H7 s7 rv
        have s57 := (s5.trans s6).trans s7
        have hF7 : F7 D = none := (s6.trans s7).old D hF5 (by rw [hH5]; exact fun z => nomatch z)
        have hH7 : H7 D = some (.lst vs4) := (s6.trans s7).hh _ _ hH5
        refine ⟨vs4, hH7, ?_, ?_⟩
        · rw [ra4.len, sizeLine_eq]
          have : (acc ++ acc1).length < bs.length := by
            rw [ebs, e4, eb1, i3]
            simp only [List.length_append, List.length_cons]
            omega
          omega
        · exact ⟨ys.length - (j + 1), by omega, rfl, hjl, F7, vs4 ++ [v], acc1 ++ [c], r2, sa.trans s57.ff, env_updN ((ea5.stp s6).stp s7) hω2 hBD hF7, (sb4.trans s57).updN hD hF7, hF7, upd_same, by
            rw [← List.append_assoc]
            exact (ra4.imp fun _ _ => U.mono s57.ff).app (.cons rv .nil), i2, by rw [eb1, i3, List.append_assoc] <;> rfl⟩
    · have ej : j = ys.length := by omega
      subst ej
      rw [List.drop_length] at hr4
      have er : rest1 = [] := by cases hr4; rfl
      subst er
      rw [List.append_nil] at eb1
      subst eb1
      refine .inl ⟨tw1.stops F4 H4 sa sb4.fh ea4.base False.elim, ?_⟩
      exact ⟨xs.length - (i + 1), by omega, rfl, hlt, F4, vs4, acc ++ b1, c1, sb4, hF4, hH4, ra4, e3, by rw [ebs, e4, List.append_assoc]⟩
  · have e : i = xs.length := by omega
    subst e
    rw [List.drop_length] at hr
    have er : rest = [] := by cases hr; rfl
    subst er
    rw [List.append_nil] at ebs
    subst ebs
    refine .inl ⟨tw.stops F' H' s'.ff s'.fh ((en.base.stp s1).stp s') (fun _ => s'.hh), ?_⟩
    exact q (.ref D) F' H' (fun a => a = D) (s1.trans s') (fun a e => by
      subst e
      exact ⟨hF', (by rw [hH']; exact fun z => nomatch z), hD0⟩) ⟨D, vs, rfl, rfl, hH', ra⟩
/-- as a value -/
theorem wo_lc2 (C : XC X N sc k E) (own : List (Str × Nat)) (vs1 : List Nat) (hk : blkC N sc.sc scope own = true) (hv1 : ∀ j ∈ vs1, j ∈ own.map (·.2)) (hit : WIs X E B Γ tg iter T mi) (hix : ∀ j ∈ ix, j ∈ own.map (·.2)) (hg : ∀ s H' Cc cl fp, XC (bx X scope s H' Cc cl fp) N ⟨relS scope sc.sc, scope⟩ k E0 → WG (bx X scope s H' Cc cl fp) B tg T ix g)
    (hit1 : ∀ s H' Cc cl fp a, XC (bx X scope s H' Cc cl fp) N ⟨relS scope sc.sc, scope⟩ k E0 → WI (bx X scope s H' Cc cl fp) E0 B (g a (wipeS Γ (own.map (·.2)))) tg1 iter1 S (mi1 a)) (hg1 : ∀ s H' Cc cl fp, XC (bx X scope s H' Cc cl fp) N ⟨relS scope sc.sc, scope⟩ k E0 → WG (bx X scope s H' Cc cl fp) B tg1 S ix1 g1) (hix1 : ∀ j ∈ ix1, j ∈ vs1)
    (hc : ∀ s H' Cc cl fp a b, XC (bx X scope s H' Cc cl fp) N ⟨relS scope sc.sc, scope⟩ k E0 → WTs (bx X scope s H' Cc cl fp) E0 B (g1 b (wipeS (g a (wipeS Γ (own.map (·.2)))) vs1)) ifs1 (mc a b)) (he : ∀ s H' Cc cl fp a b, XC (bx X scope s H' Cc cl fp) N ⟨relS scope sc.sc, scope⟩ k E0 → WE (bx X scope s H' Cc cl fp) E0 B (g1 b (wipeS (g a (wipeS Γ (own.map (·.2)))) vs1)) elt U.rl (m a b))
    (hs : ∀ x, foldedSetIterable iter X.env x = pure x := by intro _; rfl) (hs1 : ∀ env x, foldedSetIterable iter1 env x = pure x := by intro _ _; rfl) :
    WO X E B Γ (.ListComp elt [⟨tg, iter, [], 0⟩, ⟨tg1, iter1, ifs1, 0⟩] scope pos) (oLst U) (mi >>= fun xs => comp2O mi1 (fun a b => ifO (mc a b) (m a b)) xs >>= limO) := fun σ F H ω Q en po =>
  ⟨_, pe_lc2 C.calm (by rw [C.nm]; exact C.nd) pi_s (blk_ok C hk) hv1 pg_u pts_u pi_u pg_u pts_u pe_u hs hs1, lc2_read C hv1 hit hix (fun s H' Cc cl fp => hg s H' Cc cl fp (xc_blk C s H' Cc cl fp)) (fun s H' Cc cl fp a => hit1 s H' Cc cl fp a (xc_blk C s H' Cc cl fp)) hix1 (fun s H' Cc cl fp => hg1 s H' Cc cl fp (xc_blk C s H' Cc cl fp)) (fun s H' Cc cl fp a b => hc s H' Cc cl fp a b (xc_blk C s H' Cc cl fp)) (fun s H' Cc cl fp a b => he s H' Cc cl fp a b (xc_blk C s H' Cc cl fp)) en po⟩
/-- name = [..] on one line -/
theorem ws_lc2 {b : List Stmt} {bs : List (List Stmt)} {δ : Type} {D : δ → SOut} {f : List γ → Out δ} {y : Str} {py spos : Pos} (C : XC X N sc k E) (i : Nat) (own : List (Str × Nat)) (vs1 : List Nat) (hk : blkC N sc.sc scope own = true) (hv1 : ∀ j ∈ vs1, j ∈ own.map (·.2)) (hit : WIs X E B Γ tg iter T mi) (hix : ∀ j ∈ ix, j ∈ own.map (·.2))
    (hg : ∀ s H' Cc cl fp, XC (bx X scope s H' Cc cl fp) N ⟨relS scope sc.sc, scope⟩ k E0 → WG (bx X scope s H' Cc cl fp) B tg T ix g) (hit1 : ∀ s H' Cc cl fp a, XC (bx X scope s H' Cc cl fp) N ⟨relS scope sc.sc, scope⟩ k E0 → WI (bx X scope s H' Cc cl fp) E0 B (g a (wipeS Γ (own.map (·.2)))) tg1 iter1 S (mi1 a)) (hg1 : ∀ s H' Cc cl fp, XC (bx X scope s H' Cc cl fp) N ⟨relS scope sc.sc, scope⟩ k E0 → WG (bx X scope s H' Cc cl fp) B tg1 S ix1 g1) (hix1 : ∀ j ∈ ix1, j ∈ vs1)
    (hc : ∀ s H' Cc cl fp a b, XC (bx X scope s H' Cc cl fp) N ⟨relS scope sc.sc, scope⟩ k E0 → WTs (bx X scope s H' Cc cl fp) E0 B (g1 b (wipeS (g a (wipeS Γ (own.map (·.2)))) vs1)) ifs1 (mc a b)) (he : ∀ s H' Cc cl fp a b, XC (bx X scope s H' Cc cl fp) N ⟨relS scope sc.sc, scope⟩ k E0 → WE (bx X scope s H' Cc cl fp) E0 B (g1 b (wipeS (g a (wipeS Γ (own.map (·.2)))) vs1)) elt U.rl (m a b))
    (hr : ∀ a, WS X E B (Γ.set i (.on _ (oLst U) a)) (b :: bs) (f a) D) (hN : N[i]? = some y := by rfl) (hyl : sc.sc.names.lookup y = some .local := by rfl) (hkd : sc.sc.kind = .function := by rfl) (hln : (py.line == pos.line) = true := by rfl)
    (hna : (scope.names.any fun (n, k) => n == y && (k == .local || k == .cell)) = false := by decide +kernel) (hs : ∀ x, foldedSetIterable iter X.env x = pure x := by intro _; rfl) (hs1 : ∀ env x, foldedSetIterable iter1 env x = pure x := by intro _ _; rfl) :
    WS X E B Γ ((.Assign [.Name y py] (.ListComp elt [⟨tg, iter, [], 0⟩, ⟨tg1, iter1, ifs1, 0⟩] scope pos) spos :: b) :: bs) ((mi >>= fun xs => comp2O mi1 (fun a b => ifO (mc a b) (m a b)) xs >>= limO) >>= f) D := fun σ F H ω En en q => by
  have hyl' : X.env.scope.names.lookup y = some .local := by rw [C.scp]; exact hyl
  refine sK_cons ⟨_, ps_setLc2 (i := i) C.calm (by rw [C.nm]; exact C.nd) (by rw [C.nm]; exact hN) hyl' (sw_true (by rw [C.scp]; exact hkd) hyl' hln hna) pi_s (blk_ok C hk) hv1 pg_u pts_u pi_u pg_u pts_u pe_u hs hs1, ?_⟩
  refine lc2_read C hv1 hit hix (fun s H' Cc cl fp => hg s H' Cc cl fp (xc_blk C s H' Cc cl fp)) (fun s H' Cc cl fp a => hit1 s H' Cc cl fp a (xc_blk C s H' Cc cl fp)) hix1 (fun s H' Cc cl fp => hg1 s H' Cc cl fp (xc_blk C s H' Cc cl fp)) (fun s H' Cc cl fp a b => hc s H' Cc cl fp a b (xc_blk C s H' Cc cl fp)) (fun s H' Cc cl fp a b => he s H' Cc cl fp a b (xc_blk C s H' Cc cl fp)) en (q.bind.imp fun a q v F1 H1 S s1 d r => ?_)
  obtain ⟨ω', en'⟩ := env_setO (i := i) (en.stp s1) (new_ok en s1 d) r
  exact hr a _ F1 H1 _ En en' (q.imp fun b z => EndOk.up z s1.ff)
end
end SL

set_option Elab.async false
set_option linter.all false
set_option maxRecDepth 100000
set_option maxHeartbeats 3200000
/-! SLn: set(xs) of a list of ints. -/
namespace SL
open PySem PySem.Spec PyProof.Rows L2
section
variable {P : Program} {w : World} {A : Around} {E : Value → Shared → Prop} {s : Shared}
/-- the new set's object -/
abbrev setO0 (w : World) : Obj := { cls := .type "set", dict := none, data := .set #[] 0 (.fresh 0 0 (!w.params.followText "set-order")) }
theorem call_set_ints {l : Addr} {items : Array Value} (ns : List Int) {Q : Value → Shared → Prop} (hh : A.handled = none) (hl : s.heap.IsList l items) (hit : IntsAre items.toList ns) (hb : ns.length + 1 < scanBound)
    (h : ∀ (h' : Heap) (tk c : Nat), SetR w h' s.heap.objs.size (fun j => decide (j ∈ ns)) c → c ≤ ns.length → (∀ b o, s.heap.get? b = some o → h'.get? b = some o) → Q (.ref s.heap.objs.size) { s with heap := h', toks := tk }) :
    wpAny (model P w) A (call (.type "set") [.ref l]) Q E s := by
  have hisz : items.size = ns.length := by
    have q := IntsAre.length hit
    rwa [Array.length_toList] at q
  obtain ⟨c, tl, hmro⟩ := F.called_set.mro
  have hmade := F.called_set.made
  have hsub := F.called_set.sub
  have h1 := F.called_set.notType
  have h2 := F.called_set.canCreate
  have hct := F.typeCall_set_1 (.ref l)
  refine wpAny_call (codeAny_of_tree ?_)
  show wpAny _ _ (callAny (.type "set") _) _ _ _
  refine wpAny_pure ⟨Code.quiet_builtin _ (by decide +kernel), codeAny_builtin F.entry_type_call ?_⟩
  rw [Around.under_plain (weight_type_call_type "set" [.ref l] []) rfl]
  repeat (any_goals (first | assumption | wp_step))
  refine codeAny_mono (code_set_led1 (.ref l) (E := E) (Q₁ := fun obj s₁ => obj = .ref s.heap.objs.size ∧ s₁ = { s with heap := s.heap.push (setO0 w) }) ⟨rfl, rfl⟩) fun r s₁ hr => ?_
  cases r with
  | error e => exact hr
  | ok fl =>
    cases fl with
    | ret obj =>
      obtain ⟨rfl, rfl⟩ := hr
      have hS : (s.heap.push (setO0 w)).get? s.heap.objs.size = some (setO0 w) := Heap.get?_push_size _ rfl
      have hT : Shared.TypeIs { s with heap := s.heap.push (setO0 w) } (.ref s.heap.objs.size) "set" := ⟨_, hS, rfl⟩
      have hli := F.called_set.init.lookup
      have hbi := F.called_set.init.bind (.ref s.heap.objs.size)
      repeat (any_goals (first | assumption | wp_step))
      refine codeAny_mono (codeAny_call_builtin (R := wants (fun r s₂ => r = .none ∧ ∃ h' tk c, s₂ = { s with heap := h', toks := tk } ∧ SetR w h' s.heap.objs.size (fun j => decide (j ∈ ns)) c ∧ c ≤ ns.length ∧
          (∀ b o, s.heap.get? b = some o → h'.get? b = some o)) E) F.called_set.init.plain F.entry_set_init (check_set_init_1 hT ?_)) fun r₂ s₂ hr₂ => ?_
      · obtain ⟨⟨ocls, odict, odata, oslots⟩, hol, hcl, nl, hdl⟩ := hl
        simp only at hcl hdl
        subst hcl; subst hdl
        have hol' : (s.heap.push (setO0 w)).get? l = some { cls := .type "list", dict := odict, data := .seq items nl, slots := oslots } := Heap.get?_push_of_some _ hol
        have hsls := F.sub_list_set
        have hslf := F.sub_list_frozenset
        have hne : (Value.type "list" == Value.type "dict") = false := by decide
        have hl1 : (s.heap.push (setO0 w)).IsList l items := ⟨_, hol', rfl, nl, rfl⟩
        have hlS : l < s.heap.objs.size := Heap.lt_size hol
        have hzz : (s.heap.push (setO0 w)).objs.size = s.heap.objs.size + 1 := Heap.size_push ..
        have hneI : l ≠ (s.heap.push (setO0 w)).objs.size := by
          rw [hzz]; exact Nat.ne_of_lt (Nat.lt_succ_of_lt hlS)
        have hSf : s.heap.objs.size ∉ [(s.heap.push (setO0 w)).objs.size, l] := by
          rw [hzz]; simp only [List.mem_cons, List.not_mem_nil, or_false, not_or]
          exact ⟨Nat.ne_of_lt (Nat.lt_succ_self _), Nat.ne_of_gt hlS⟩
        have hval : ∀ (i : Nat) (v : Value), items[i]? = some v → ∃ k t, ns[i]? = some k ∧ v = .int k t := fun i v hv => by
          have hi : i < ns.length := by rw [← hisz]; exact (Array.getElem?_eq_some_iff.mp hv).1
          obtain ⟨t, e⟩ := PyProof.Rows.IntsAre.int_at hit i v (by rw [Array.getElem?_toList]; exact hv)
          refine ⟨ns[i], t, List.getElem?_eq_getElem hi, ?_⟩
          rw [e, List.getD_eq_getElem?_getD, List.getElem?_eq_getElem hi] <;> rfl
        unfold Builtin.«set.__init__» noKeywords Builtin.Frozenset.updateFrom
        generalize hPI : pyIter = PI
        wp_walk
        subst hPI
        refine wpAny_pyIter_list hl1 (wpAny_bind (wpAny_runValue ?_))
        have hh3 : A.in1.in1.in1.handled = none := by simp [hh]
        refine set_update_ints ((Walks.list hh3 _ l hneI items).toS) s.heap.objs.size hSf ns hisz hb hval (items.size - 0) 0 _ (by omega) (Nat.zero_le _) ⟨⟨_, Heap.get?_push_size _ rfl, rfl, rfl⟩, (hl1.push _)⟩ ⟨0, Nat.le_refl 0, setR_new_at (Heap.get?_push_of_some _ hS)⟩ fun s' c' hm hc' hS' => ?_
        obtain ⟨h', g2, d', tk', os'⟩ := s'
        have eg : g2 = s.gens := hm.gens
        have ed : d' = s.drawn := hm.drawn
        have eo : os' = s.os := hm.os
        subst eg; subst ed; subst eo
        show wpAny _ _ _ _ _ _
        refine wpAny_pure ?_
        show wpAny _ _ (ret Value.none) _ _ _
        rw [hisz] at hc'
        refine wpAny_pure ⟨rfl, h', tk', c', rfl, hS', hc', fun b o e => ?_⟩
        have hb0 : b < s.heap.objs.size := Heap.lt_size e
        refine hm.heap b o ?_ (Heap.get?_push_of_some _ (Heap.get?_push_of_some _ e))
        rw [hzz]
        simp only [List.mem_cons, List.not_mem_nil, or_false, not_or]
        exact ⟨Nat.ne_of_lt hb0, Nat.ne_of_lt (Nat.lt_succ_of_lt hb0)⟩
      · cases r₂ with
        | error e => exact hr₂
        | ok fl₂ =>
          cases fl₂ with
          | ret r =>
            obtain ⟨rfl, h', tk, c', rfl, hS', hc', hk'⟩ := hr₂
            repeat (any_goals (first | assumption | wp_step))
            exact h _ _ _ hS' hc' hk'
          | _ => exact hr₂.elim
    | _ => exact hr.elim
end
variable {X : Cx} {N : List Str} {sc : Scp} {k : Nat} {E : XK} {B : Bs} {Γ : List Slot}
def rSetOf (K : PySem.W.Frag) (w : World) : List V → Hp → VK → Prop := fun vs H Q => ∃ (l : Addr) (ns : List Int), vs = [.ref l] ∧ SqL K H l (ns.map V.int) ∧ ns.length + 1 < scanBound ∧ ∀ (p : Addr) (c : Nat), H p = none → c ≤ ns.length → Q (.ref p) (upd H p (SetO w p (fun j => decide (j ∈ ns)) c))
theorem cr_setOf (hc : X.calm = true) : CallR X (.type "set") (rSetOf X.K X.w) := by
  intro pins s σ H vs us Q I r h
  obtain ⟨l, ns, rfl, hq, hb, q⟩ := h
  obtain ⟨its, rv, hl, hz⟩ := I.list hq
  rw [Vals.ref1 r]
  refine call_set_ints ns (I.ok.hd hc) hl.isList (by simpa using rv.ints) hb fun h' tk c hS hcl hk => ?_
  exact ⟨.ref s.heap.objs.size, upd H s.heap.objs.size (SetO X.w s.heap.objs.size (fun j => decide (j ∈ ns)) c), I.laid (t' := tk) hk (Nat.le_refl _) (setO_new hS), rfl, q _ c (I.hok.fresh (Nat.le_refl _)) hcl⟩
def setOfO (xs : List Int) : Out (List Int) := if xs.length < 4000 then pure xs else .stuck
/-- set(xs): its members are those of xs -/
theorem wo_setL (C : XC X N sc k E) (Z : Fre X.mg) {e : Expr} {m : Out (List Int)} {p pos : Pos} (h : WE X E B Γ e (rLst tInt) m) (hg : GlN sc "set" := by rfl) (he : starEach (e :: []) X.env = (false, eval e X.env) :: starEach [] X.env := by rfl) :
    WO X E B Γ (.Call (.Name "set" p) [e] [] pos) (oSet X.w) (m >>= setOfO) := by
  refine ctO (R := rLst tInt) C (cr_setOf C.calm) Z.set (by decide +kernel) (fun F H x a Q J s hx po => ?_) h hg (he := he)
  obtain ⟨p, vs, e, q, r⟩ := hx
  have ev := fa2_int r
  subst ev
  unfold setOfO at po
  by_cases c : a.length < 4000
  · rw [if_pos c] at po
    refine ⟨p, a, by rw [e], q, by rw [show scanBound = 4096 from rfl]; omega, fun d n hd hn => ?_⟩
    exact po (.ref d) F _ (fun z => z = d) (Stp.newH s hd) (fun z e => by
      subst e
      exact ⟨s.free hd, (by rw [upd_same]; exact fun z => nomatch z), hd⟩) ⟨d, rfl, rfl, n, by rw [upd_same], hn⟩
  · rw [if_neg c] at po
    exact po.elim
end SL

set_option Elab.async false
set_option linter.all false
set_option maxRecDepth 100000
set_option maxHeartbeats 2000000
/-! SLo: own things that reach further; dicts. -/
namespace SL
open PySem PySem.Spec PyProof.Rows L2
variable {X : Cx} {N : List Str} {sc : Scp} {k : Nat} {E : XK} {B : Bs} {Γ : List Slot}
/-- the own thing of slot i changes as a whole: its addresses are now those of S' -/
theorem env_mut {K : PySem.W.Frag} {Γ : List Slot} {σ : L2.St} {F H H' : Hp} {ω : Ow} {i : Nat} {v : V} (s : Slot) (S' : Addr → Prop) (e : EnvOk K B Γ σ F H ω) (hv : σ[i]? = some (some v))
    (h1 : ∀ p, H p ≠ none → ω p ≠ some i → H' p = H p) (h2 : ∀ p, H p ≠ none → H' p ≠ none) (hS : ∀ p, S' p → F p = none ∧ H' p ≠ none ∧ (ω p = some i ∨ H p = none)) (r : s.ok K F H' S' (some v)) :
    ∃ ω', (∀ p, ω' p = some i ↔ S' p) ∧ EnvOk K B (Γ.set i s) σ F H' ω' := by
  classical
  have hn : ∀ p, ω p = some i → F p = none := fun p hp => (e.own p i hp).1
  have hN : ∀ p, H p = none → ω p = none := fun p hp => by
    cases h : ω p with
    | none => rfl
    | some j => exact absurd hp (e.own p j h).2.1
  have hω : ∀ p, (if S' p then some i else if ω p = some i then none else ω p) = some i ↔ S' p := fun p => by
    by_cases c : S' p
    · simp [c]
    · by_cases c2 : ω p = some i <;> simp [c, c2]
  have hj : ∀ p j, i ≠ j → ((if S' p then some i else if ω p = some i then none else ω p) = some j ↔ ω p = some j) := fun p j hij => by
    by_cases c : S' p
    · simp only [if_pos c]
      constructor
      · exact fun z => absurd (Option.some.inj z) hij
      · intro z
        rcases (hS p c).2.2 with q | q
        · rw [q] at z
          exact absurd (Option.some.inj z) hij
        · rw [hN p q] at z
          cases z
    · simp only [if_neg c]
      by_cases c2 : ω p = some i
      · simp only [if_pos c2, c2]
        exact ⟨(fun z => nomatch z), fun z => absurd (Option.some.inj z) hij⟩
      · simp only [if_neg c2]
  refine ⟨fun p => if S' p then some i else if ω p = some i then none else ω p, hω, ⟨e.base.ff, fun a u h => ?_, fun a u h n => ?_, fun a h => h2 a (e.base.there a h), e.base.old⟩, by rw [List.length_set, e.len], fun p j h => ?_, fun j t h => ?_⟩
  · have hh := e.base.fh a u h
    rw [h1 a (by rw [hh]; exact fun z => nomatch z) (fun z => by rw [hn a z] at h; cases h)]
    exact hh
  · have hh := e.base.hh a u h n
    rw [h1 a (by rw [hh]; exact fun z => nomatch z) (fun z => by
      rcases (e.own a i z).2.2 with q | q
      · rw [q] at h; cases h
      · exact n q)]
    exact hh
  · by_cases hij : i = j
    · subst hij
      obtain ⟨x, y, z⟩ := hS p ((hω p).mp h)
      refine ⟨x, y, ?_⟩
      rcases z with z | z
      · exact (e.own p i z).2.2
      · refine .inl ?_
        cases q : B.H p with
        | none => rfl
        | some o => exact absurd z (e.base.there p (by rw [q]; exact fun z => nomatch z))
    · have h' := (hj p j hij).mp h
      obtain ⟨x, y, z⟩ := e.own p j h'
      exact ⟨x, h2 p y, z⟩
  · by_cases hij : i = j
    · subst hij
      have hi : i < Γ.length := by
        have := (List.getElem?_eq_some_iff.mp h).1
        rwa [List.length_set] at this
      rw [List.getElem?_set_self hi] at h
      cases h
      rw [hv]
      exact slot_iff r hω
    · rw [List.getElem?_set_ne hij] at h
      refine slot_iff (Slot.keep (e.slot j t h) (Same.refl F) fun p hp => h1 p (e.own p j hp).2.1 fun z => ?_) fun p => hj p j hij
      rw [z] at hp
      exact hij (Option.some.inj hp)

/-! ### fixed dicts with int keys -/
abbrev ki (k : Int) : Key := Sum.inl k
inductive FaK {α : Type} (R : V → α → Prop) : List (Key × V) → List (Int × α) → Prop where
  | nil : FaK R [] []
  | cons {k : Int} {v : V} {x : α} {kvs : List (Key × V)} {a : List (Int × α)} : R v x → FaK R kvs a → FaK R ((ki k, v) :: kvs) ((k, x) :: a)
theorem FaK.imp {α : Type} {R R' : V → α → Prop} {kvs : List (Key × V)} {a : List (Int × α)} (h : FaK R kvs a) (f : ∀ v a, R v a → R' v a) : FaK R' kvs a := by
  induction h with
  | nil => exact .nil
  | cons r _ ih => exact .cons (f _ _ r) ih
def tDic {α : Type} (T : Ty α) : Ty (List (Int × α)) := ⟨fun K F v a => ∃ p kvs, v = .ref p ∧ F p = some (.dK kvs) ∧ FaK (T.rel K F) kvs a, fun s ⟨p, kvs, e, q, r⟩ => ⟨p, kvs, e, s _ _ q, r.imp fun _ _ => T.mono s⟩⟩
def dgetO {α : Type} (a : List (Int × α)) (k : Int) : Out α := match a with
  | [] => .stuck
  | (j, x) :: r => if j = k then pure x else dgetO r k
theorem faK_get {α : Type} {R : V → α → Prop} {kvs : List (Key × V)} {a : List (Int × α)} (h : FaK R kvs a) (k : Int) {P : α → Prop} {J : Err → Prop} (q : Post (dgetO a k) P J) : ∃ v x, valV kvs (ki k) = some v ∧ R v x ∧ P x := by
  induction h with
  | nil => exact q.elim
  | @cons j v x kvs a r _ ih =>
    unfold dgetO at q
    by_cases c : j = k
    · rw [if_pos c] at q
      exact ⟨v, x, valV_pos (p := (ki j, v)) (by rw [c]), r, q⟩
    · rw [if_neg c] at q
      obtain ⟨v2, x2, h1, h2, h3⟩ := ih q
      exact ⟨v2, x2, by rw [valV_neg (p := (ki j, v)) (fun z => c (Sum.inl.inj z))]; exact h1, h2, h3⟩
theorem hu1 (C : XC X N sc k E) : X.A.units + 1 < cLine := by have := C.room.un; omega
/-- d[k] -/
theorem we_dget (C : XC X N sc k E) {e1 e2 : Expr} {α : Type} {T : Ty α} {m : Out (List (Int × α))} {mi : Out Int} {pos : Pos} (h1 : WE X E B Γ e1 (tDic T).rl m) (h2 : WE X E B Γ e2 tInt.rl mi) (hs : NoSl e2 := by intro _ _; rfl) :
    WE X E B Γ (.Subscript e1 e2 pos) T.rl (m >>= fun a => mi >>= fun i => dgetO a i) := fun σ F H ω Q en q => by
  refine ⟨_, pe_dget (hu1 C) pe_s pe_s hs, ?_⟩
  refine h1 σ F H ω _ en (q.bind.imp fun a q v F1 H1 s1 r1 => ?_)
  refine h2 σ F1 H1 ω _ (en.stp s1) (q.bind.imp fun i q y F2 H2 s2 ry => ?_)
  obtain ⟨p, kvs, e, hp, r⟩ := r1
  obtain ⟨v, x, g1, g2, g3⟩ := faK_get r i q
  exact ⟨p, v, e, by rw [show y = .int i from ry]; exact .inl ⟨kvs, .inl i, .inl ((s2.fh _ _ (s2.ff _ _ hp))), rfl, g1.symm⟩, g3 v F2 H2 (s1.trans s2) (T.mono s2.ff g2)⟩
end SL

set_option Elab.async false
set_option linter.all false
set_option maxRecDepth 100000
set_option maxHeartbeats 2000000
/-! SLp: a tuple of dicts of lists, that grows (meeting_edges). -/
namespace SL
open PySem PySem.Spec PyProof.Rows L2
variable {X : Cx} {N : List Str} {sc : Scp} {k : Nat} {E : XK} {B : Bs} {Γ : List Slot}
abbrev kvA (A : List (Int × Addr)) : List (Key × V) := A.map fun p => (ki p.1, V.ref p.2)
inductive LL (H : Hp) : List (Int × Addr) → List (Int × List Int) → Prop where
  | nil : LL H [] []
  | cons {j : Int} {l : Addr} {xs : List Int} {A : List (Int × Addr)} {a : List (Int × List Int)} : H l = some (.lst (xs.map V.int)) → LL H A a → LL H ((j, l) :: A) ((j, xs) :: a)
inductive LD (H : Hp) : List (Addr × List (Int × Addr)) → List (List (Int × List Int)) → Prop where
  | nil : LD H [] []
  | cons {q : Addr} {A : List (Int × Addr)} {a : List (Int × List Int)} {L : List (Addr × List (Int × Addr))} {as : List (List (Int × List Int))} : H q = some (.dK (kvA A)) → LL H A a → LD H L as → LD H ((q, A) :: L) (a :: as)
def adrs : List (Addr × List (Int × Addr)) → List Addr
  | [] => []
  | (q, A) :: L => q :: (A.map (·.2) ++ adrs L)
theorem LL.keep {H H' : Hp} {A : List (Int × Addr)} {a : List (Int × List Int)} (h : LL H A a) (k : ∀ x ∈ A.map (·.2), H' x = H x) : LL H' A a := by
  induction h with
  | nil => exact .nil
  | cons e _ ih => exact .cons ((k _ (by simp)).trans e) (ih fun x hx => k x (by simp only [List.map_cons, List.mem_cons]; exact .inr hx))
theorem LD.keep {H H' : Hp} {L : List (Addr × List (Int × Addr))} {as : List (List (Int × List Int))} (h : LD H L as) (k : ∀ x ∈ adrs L, H' x = H x) : LD H' L as := by
  induction h with
  | nil => exact .nil
  | cons e l _ ih => exact .cons ((k _ (by simp [adrs])).trans e) (l.keep fun x hx => k x (by simp only [adrs, List.mem_cons, List.mem_append]; exact .inr (.inl hx))) (ih fun x hx => k x (by simp only [adrs, List.mem_cons, List.mem_append]; exact .inr (.inr hx)))
def oMeet : Own (List (List (Int × List Int))) := ⟨fun K F H S v a => ∃ p L, v = .ref p ∧ H p = some (.tup (L.map fun x => V.ref x.1)) ∧ LD H L a ∧ (p :: adrs L).Nodup ∧ ∀ x ∈ p :: adrs L, S x,
  fun ⟨p, L, e, h, l, n, hs⟩ s k => ⟨p, L, e, by rw [k p (hs p (by simp))]; exact h, l.keep fun x hx => k x (hs x (by simp [hx])), n, hs⟩⟩
theorem fa_dic {K : PySem.W.Frag} {F : Hp} {A : List (Int × Addr)} {a : List (Int × List Int)} (h : LL F A a) : FaK ((tLst tInt).rel K F) (kvA A) a := by
  induction h with
  | nil => exact .nil
  | @cons j l xs A a e _ ih => exact .cons ⟨l, _, rfl, e, int_fa2 xs⟩ ih
theorem fa_meet {K : PySem.W.Frag} {F : Hp} {L : List (Addr × List (Int × Addr))} {as : List (List (Int × List Int))} (h : LD F L as) : Fa2 ((tDic (tLst tInt)).rel K F) (L.map fun x => V.ref x.1) as := by
  induction h with
  | nil => exact .nil
  | @cons q A a L as e l _ ih => exact .cons ⟨q, _, rfl, e, fa_dic l⟩ ih
theorem fz_meet : Fz oMeet (tTup (tDic (tLst tInt))) := fun K F H S v a d ⟨p, L, e, h, l, n, hs⟩ =>
  ⟨p, _, e, SqT.of ((frz_in (hs p (by simp))).trans h), fa_meet (l.keep fun x hx => frz_in (hs x (by simp [hx])))⟩
theorem int_map_inj : ∀ {a b : List Int}, a.map V.int = b.map V.int → a = b
  | [], [], _ => rfl
  | [], _ :: _, h => by cases h
  | _ :: _, [], h => by cases h
  | x :: a, y :: b, h => by
    simp only [List.map_cons, List.cons.injEq, V.int.injEq] at h
    rw [h.1, int_map_inj h.2]
theorem env_any {K : PySem.W.Frag} {Γ : List Slot} {σ : L2.St} {F H : Hp} {ω : Ow} {i : Nat} (e : EnvOk K B Γ σ F H ω) : EnvOk K B (Γ.set i .any) σ F H ω := ⟨e.base, by rw [List.length_set, e.len], e.own, fun j s h => by
  by_cases c : i = j
  · subst c
    by_cases hi : i < Γ.length
    · rw [List.getElem?_set_self hi] at h
      cases h
      trivial
    · rw [List.getElem?_eq_none (by rw [List.length_set]; omega)] at h
      cases h
  · rw [List.getElem?_set_ne c] at h
    exact e.slot j s h⟩
/-! ### growing -/
def addTo : List (Int × List Int) → Int → Int → List (Int × List Int)
  | [], k, n => [(k, [n])]
  | (j, xs) :: r, k, n => if j = k then (j, xs ++ [n]) :: r else (j, xs) :: addTo r k n
/-- the list at key k, or none -/
theorem ll_find {H : Hp} (k n : Int) {A : List (Int × Addr)} {a : List (Int × List Int)} (h : LL H A a) :
    (valV (kvA A) (ki k) = none ∧ ∀ (D : Addr) (H' : Hp), H' D = some (.lst ([n].map V.int)) → (∀ x ∈ A.map (·.2), H' x = H x) → LL H' (A ++ [(k, D)]) (addTo a k n)) ∨
    ∃ l xs, valV (kvA A) (ki k) = some (.ref l) ∧ H l = some (.lst (xs.map V.int)) ∧ l ∈ A.map (·.2) ∧ (∃ p ∈ a, p.2 = xs) ∧ ∀ H' : Hp, H' l = some (.lst ((xs ++ [n]).map V.int)) → (∀ x ∈ A.map (·.2), x ≠ l → H' x = H x) → (A.map (·.2)).Nodup → LL H' A (addTo a k n) := by
  induction h with
  | nil => exact .inl ⟨rfl, fun D H' hD _ => .cons hD .nil⟩
  | @cons j l xs A a e hr ih =>
    by_cases c : j = k
    · subst c
      refine .inr ⟨l, xs, valV_pos (p := (ki j, V.ref l)) rfl, e, by simp, ⟨_, List.mem_cons_self, rfl⟩, fun H' h1 h2 hn => ?_⟩
      unfold addTo
      rw [if_pos rfl]
      simp only [List.map_cons, List.nodup_cons] at hn
      exact .cons h1 (hr.keep fun x hx => h2 x (by simp only [List.map_cons, List.mem_cons]; exact .inr hx) fun z => hn.1 (z ▸ hx))
    · have hv : valV (kvA ((j, l) :: A)) (ki k) = valV (kvA A) (ki k) := valV_neg (p := (ki j, V.ref l)) fun z => c (Sum.inl.inj z)
      rw [hv]
      have ea : addTo ((j, xs) :: a) k n = (j, xs) :: addTo a k n := by
        rw [addTo, if_neg c]
      rw [ea]
      rcases ih with ⟨h1, h2⟩ | ⟨l2, xs2, h1, h2, h3, ⟨p, hp, hp2⟩, h4⟩
      · refine .inl ⟨h1, fun D H' hD hk => ?_⟩
        exact .cons ((hk l (by simp)).trans e) (h2 D H' hD fun x hx => hk x (by simp only [List.map_cons, List.mem_cons]; exact .inr hx))
      · refine .inr ⟨l2, xs2, h1, h2, by simp only [List.map_cons, List.mem_cons]; exact .inr h3, ⟨p, List.mem_cons_of_mem _ hp, hp2⟩, fun H' g1 g2 hn => ?_⟩
        simp only [List.map_cons, List.nodup_cons] at hn
        exact .cons ((g2 l (by simp) fun z => hn.1 (z ▸ h3)).trans e) (h4 H' g1 (fun x hx => g2 x (by simp only [List.map_cons, List.mem_cons]; exact .inr hx)) hn.2)
/-- the dict at index i -/
theorem ld_at {H : Hp} {L : List (Addr × List (Int × Addr))} {as : List (List (Int × List Int))} (h : LD H L as) : ∀ {i : Nat} {a : List (Int × List Int)}, as[i]? = some a → ∃ q A, L[i]? = some (q, A) ∧ H q = some (.dK (kvA A)) ∧ LL H A a ∧ q ∈ adrs L ∧ (∀ x ∈ A.map (·.2), x ∈ adrs L ∧ ((adrs L).Nodup → x ≠ q)) ∧ ((adrs L).Nodup → (A.map (·.2)).Nodup) ∧
    (∀ H' A' a', H' q = some (.dK (kvA A')) → LL H' A' a' → (∀ x ∈ adrs L, x ≠ q → x ∉ A.map (·.2) → H' x = H x) → (adrs L).Nodup → LD H' (L.set i (q, A')) (as.set i a')) ∧
    (∀ A', (L.set i (q, A')).map (fun x => V.ref x.1) = L.map fun x => V.ref x.1) ∧ ∀ k D, (adrs (L.set i (q, A ++ [(k, D)]))).Perm (D :: adrs L) := by
  induction h with
  | nil => intro i a e; simp at e
  | @cons q A a0 L as e l hr ih =>
    intro i a ea
    cases i with
    | zero =>
      simp at ea
      subst ea
      refine ⟨q, A, rfl, e, l, by simp [adrs], fun x hx => ⟨by simp only [adrs, List.mem_cons, List.mem_append]; exact .inr (.inl hx), fun n z => ?_⟩, fun n => ?_, fun H' A' a' h1 h2 h3 n => ?_, fun A' => rfl, fun k D => ?_⟩
      · simp only [adrs, List.nodup_cons, List.mem_append, not_or] at n
        exact n.1.1 (z ▸ hx)
      · simp only [adrs, List.nodup_cons] at n
        exact (List.nodup_append.mp n.2).1
      · simp only [adrs, List.nodup_cons, List.mem_append, not_or] at n
        refine .cons h1 h2 (hr.keep fun x hx => h3 x (by simp only [adrs, List.mem_cons, List.mem_append]; exact .inr (.inr hx)) (fun z => n.1.2 (z ▸ hx)) fun z => ?_)
        exact (List.nodup_append.mp n.2).2.2 x z x hx rfl
      · show (q :: ((A ++ [(k, D)]).map (·.2) ++ adrs L)).Perm (D :: q :: (A.map (·.2) ++ adrs L))
        rw [List.map_append, List.append_assoc]
        refine (List.Perm.cons q ?_).trans (List.Perm.swap D q _)
        exact List.perm_middle
    | succ i =>
      obtain ⟨q1, A1, g1, g2, g3, g4, g5, g6, g7, g8, g9⟩ := ih (i := i) (a := a) (by simpa using ea)
      have hq : ∀ {x : Addr}, x ∈ adrs L → x ∈ adrs ((q, A) :: L) := fun {x} hx => by simp only [adrs, List.mem_cons, List.mem_append]; exact .inr (.inr hx)
      have hn : (adrs ((q, A) :: L)).Nodup → (adrs L).Nodup := fun n => by
        simp only [adrs, List.nodup_cons] at n
        exact (List.nodup_append.mp n.2).2.1
      refine ⟨q1, A1, by simpa using g1, g2, g3, hq g4, fun x hx => ⟨hq (g5 x hx).1, fun n => (g5 x hx).2 (hn n)⟩, fun n => g6 (hn n), fun H' A' a' h1 h2 h3 n => ?_, fun A' => by simp only [List.set_cons_succ, List.map_cons, g8], fun k D => ?_⟩
      · have n2 := hn n
        simp only [adrs, List.nodup_cons, List.mem_append, not_or] at n
        have nd := (List.nodup_append.mp n.2).2.2
        simp only [List.set_cons_succ]
        refine .cons ((h3 q (by simp [adrs]) (fun z => n.1.2 (z ▸ g4)) fun z => n.1.2 (g5 q z).1).trans e) (l.keep fun x hx => h3 x (by simp only [adrs, List.mem_cons, List.mem_append]; exact .inr (.inl hx)) (fun z => nd x hx x (z ▸ g4) rfl) fun z => nd x hx x (g5 x z).1 rfl) ?_
        exact g7 H' A' a' h1 h2 (fun x hx => h3 x (hq hx)) n2
      · simp only [List.set_cons_succ, adrs]
        have p1 := g9 k D
        refine (List.Perm.cons q ((List.Perm.append_left _ p1).trans List.perm_middle)).trans (List.Perm.swap D q _)
/-- the index s, where nothing is too long -/
def meetG (xs : List (List (Int × List Int))) (s : Int) : Out Nat := match ixN xs.length s with
  | some j => if ∀ a ∈ xs, a.length < 16777216 ∧ ∀ p ∈ a, p.2.length < 16777216 then pure j else .stuck
  | none => .stuck
def meetS (xs : List (List (Int × List Int))) (j : Nat) (k n : Int) : List (List (Int × List Int)) := xs.set j (addTo (xs[j]?.getD []) k n)
theorem meetG_ok {xs : List (List (Int × List Int))} {s : Int} {P : Nat → Prop} {J : Err → Prop} (h : Post (meetG xs s) P J) : ∃ j, ixN xs.length s = some j ∧ (∀ a ∈ xs, a.length < 16777216 ∧ ∀ p ∈ a, p.2.length < 16777216) ∧ P j := by
  unfold meetG at h
  cases hj : ixN xs.length s with
  | none => rw [hj] at h; exact h.elim
  | some j =>
    rw [hj] at h
    by_cases c : ∀ a ∈ xs, a.length < 16777216 ∧ ∀ p ∈ a, p.2.length < 16777216
    · exact ⟨j, rfl, c, by simp only [if_pos c] at h; exact h⟩
    · simp only [if_neg c] at h
      exact h.elim
theorem ll_len {H : Hp} {A : List (Int × Addr)} {a : List (Int × List Int)} (h : LL H A a) : A.length = a.length := by
  induction h with
  | nil => rfl
  | cons _ _ ih => simp [ih]
theorem ld_len {H : Hp} {L : List (Addr × List (Int × Addr))} {a : List (List (Int × List Int))} (h : LD H L a) : L.length = a.length := by
  induction h with
  | nil => rfl
  | cons _ _ _ ih => simp [ih]
/-- x[s].setdefault(k, []).append(n) -/
theorem ws_meet {β : Type} {D : β → SOut} {b : List Stmt} {bs : List (List Stmt)} {x : Str} {p p2 p3 p4 p5 p6 p7 pos : Pos} {es ek en : Expr} {xs : List (List (Int × List Int))} {ms mk mn : Out Int} {f : List (List (Int × List Int)) → Out β} (C : XC X N sc k E) (i : Nat)
    (hs : WE X E B Γ es tInt.rl ms) (hk : WE X E B Γ ek tInt.rl mk) (hn : WE X E B (Γ.set i .any) en tInt.rl mn) (hr : ∀ a, WS X E B (Γ.set i (.on _ oMeet a)) (b :: bs) (f a) D)
    (hΓ : Γ[i]? = some (.on _ oMeet xs) := by rfl) (hN : N[i]? = some x := by rfl) (hv : Vis sc.sc x := by first | exact Or.inl rfl | exact Or.inr (Or.inl rfl) | exact Or.inr (Or.inr rfl))
    (hd : (x == ("__debug__" : Str)) = false := by decide) (hcd : (x == ("__classdict__" : Str)) = false := by decide) (hpi : PlainIx es := by intro _ _; rfl)
    (hM : M2 X (.Subscript (.Name x p) es p2) "setdefault" p3 ek (.List [] p4) p5 := by exact ⟨rfl, rfl, rfl, rfl⟩)
    (hbase : attributeBase (.Call (.Attribute (.Subscript (.Name x p) es p2) "setdefault" p3) [ek, .List [] p4] [] p5) "append" X.env (eval (.Call (.Attribute (.Subscript (.Name x p) es p2) "setdefault" p3) [ek, .List [] p4] [] p5) X.env) = eval (.Call (.Attribute (.Subscript (.Name x p) es p2) "setdefault" p3) [ek, .List [] p4] [] p5) X.env := by rfl)
    (hfew : ((backTo p7 (starEach (en :: []) X.env)).all (fun x => !x.1) && (backToKw p7 (keywordEach [] X.env)).all (fun x => x.1.isSome) && decide ((en :: []).length + ([] : List Keyword).length + (if ([] : List Keyword).isEmpty then 0 else 1) < 30)) = true := by rfl)
    (hline : (p6.endLine == p7.line) = true := by rfl) (hst : starEach (en :: []) X.env = (false, eval en X.env) :: starEach [] X.env := by rfl) (hsw : swapsWith (.Call (.Attribute (.Call (.Attribute (.Subscript (.Name x p) es p2) "setdefault" p3) [ek, .List [] p4] [] p5) "append" p6) [en] [] p7) none pos.line X.env = pure false := by rfl) :
    WS X E B Γ ((.Expr (.Call (.Attribute (.Call (.Attribute (.Subscript (.Name x p) es p2) "setdefault" p3) [ek, .List [] p4] [] p5) "append" p6) [en] [] p7) pos :: b) :: bs) (ms >>= fun s => meetG xs s >>= fun j => mk >>= fun kk => mn >>= fun n => pure (meetS xs j kk n) >>= f) D := fun σ F H ω En env q => by
  refine sK_cons ⟨_, ps_expr (pe_bm PySem.F.plainAttrs_list PySem.F.slot_list_append PySem.F.type_list_append mt_append (pe_dsetd (pe_ix ix_tup (pv_ C hN hv hd hcd) pe_s hpi) pe_s (pe_lst pa_nil) hM) (pa_cons pe_s pa_nil hst) hbase hfew hline hst) hsw, ?_⟩
  obtain ⟨v, hσ, pp, L, rfl, hp, hl, hnd, hS⟩ := env.slot i _ hΓ
  have hσ := join_some hσ
  have hnd2 : (adrs L).Nodup := (List.nodup_cons.mp hnd).2
  have hpn : pp ∉ adrs L := (List.nodup_cons.mp hnd).1
  refine ⟨_, hσ, hs σ F H ω _ env (q.bind.imp fun s q v1 F1 H1 s1 r1 => ?_)⟩
  have env1 := env.stp s1
  obtain ⟨j, hj, hlen, q⟩ := meetG_ok q.bind
  have hjx : j < xs.length := (ixN_seq hj).2.1
  have hg : xs[j]? = some xs[j] := List.getElem?_eq_getElem hjx
  obtain ⟨dq, A, g1, g2, g3, g4, g5, g6, g7, g8, g9⟩ := ld_at hl hg
  have hH1 : ∀ y, ω y = some i → H1 y = H y := fun y hy => same_at s1.hh (env.own y i hy).2.1
  have hSH : ∀ y ∈ pp :: adrs L, H1 y = H y := fun y hy => hH1 y (hS y hy)
  have hp1 : H1 pp = some (.tup (L.map fun x => V.ref x.1)) := (hSH pp (by simp)).trans hp
  refine ⟨pp, _, s, .ref dq, rfl, r1, SqT.of hp1, ?_, ?_⟩
  · unfold atI
    rw [List.length_map, ld_len hl, hj]
    show (L.map fun x => V.ref x.1)[j]? = some (V.ref dq)
    rw [List.getElem?_map, g1]
    rfl
  have hd1 : H1 dq = some (.dK (kvA A)) := (hSH dq (by simp [g4])).trans g2
  refine ⟨dq, rfl, .inl ⟨_, .inl hd1⟩, hk σ F1 H1 ω _ env1 (q.bind.imp fun kk q y F2 H2 s2 ry => ⟨le_line (by simp), fun D hD => ?_⟩)⟩
  have env2 := env1.stp s2
  have hSH2 : ∀ y ∈ pp :: adrs L, H2 y = H y := fun y hy => (same_at s2.hh (env1.own y i (hS y hy)).2.1).trans (hSH y hy)
  have hDn : ∀ y ∈ pp :: adrs L, y ≠ D := fun y hy z => (env2.own y i (hS y hy)).2.1 (z ▸ hD)
  have hωD : ω D = none := by
    cases h : ω D with
    | none => rfl
    | some j => exact absurd hD (env2.own D j h).2.1
  have hBD : B.H D = none := by
    cases h : B.H D with
    | none => rfl
    | some o => exact absurd hD (env2.base.there D (by rw [h]; exact fun z => nomatch z))
  have hFD : F2 D = none := s2.fh.free hD
  have env3 : EnvOk X.K B Γ σ F2 (upd H2 D (.lst [])) ω := env_updN env2 hωD hBD hFD
  have hd3 : upd H2 D (.lst []) dq = some (.dK (kvA A)) := by rw [upd_ne (hDn dq (by simp [g4])), hSH2 dq (by simp [g4])]; exact g2
  have hkl : (kvA A).length < sizeLine := by
    have h := (hlen _ (List.getElem_mem hjx)).1
    rw [List.length_map, ll_len g3, sizeLine_eq]
    exact h
  refine ⟨_, ki kk, hd3, ry, hkl, ?_, ?_⟩
  · -- the key is there
    intro v hv
    have hset : L.set j (dq, A) = L := by
      refine List.ext_getElem? fun m => ?_
      by_cases c : j = m
      · subst c
        rw [List.getElem?_set_self (List.getElem?_eq_some_iff.mp g1).1, g1]
      · rw [List.getElem?_set_ne c]
    have hex : ∃ (l : Addr) (vs : List Int), v = .ref l ∧ H l = some (.lst (vs.map V.int)) ∧ l ∈ A.map (·.2) ∧ vs.length < 16777216 := by
      rcases ll_find kk 0 g3 with ⟨h1, _⟩ | ⟨l, vs, h1, h2, h3, ⟨pq, hpq, hpq2⟩, _⟩
      · rw [h1] at hv; cases hv
      · rw [h1] at hv
        cases hv
        exact ⟨l, vs, rfl, h2, h3, by rw [← hpq2]; exact (hlen _ (List.getElem_mem hjx)).2 _ hpq⟩
    obtain ⟨l, vs, rfl, h2, h3, h5⟩ := hex
    have hlL : l ∈ adrs L := (g5 l h3).1
    have hl3 : upd H2 D (.lst []) l = some (.lst (vs.map V.int)) := by rw [upd_ne (hDn l (by simp [hlL])), hSH2 l (by simp [hlL])]; exact h2
    refine ⟨.inl ⟨rfl, _, SqL.of hl3⟩, hn σ F2 _ ω _ (env_any env3) (q.bind.imp fun n q y2 F4 H4 s4 ry2 => ?_)⟩
    have env4 := env3.stp s4
    have hSH4 : ∀ y ∈ pp :: adrs L, H4 y = H y := fun y hy => by
      rw [same_at s4.hh (env3.own y i (hS y hy)).2.1, upd_ne (hDn y hy), hSH2 y hy]
    have h4 : ∀ H' : Hp, H' l = some (.lst ((vs ++ [n]).map V.int)) → (∀ x ∈ A.map (·.2), x ≠ l → H' x = H x) → (A.map (·.2)).Nodup → LL H' A (addTo xs[j] kk n) := by
      rcases ll_find kk n g3 with ⟨h1, _⟩ | ⟨l', vs', h1, h2', h3', _, h4⟩
      · rw [h1] at hv; cases hv
      · rw [h1] at hv
        cases hv
        rw [h2] at h2'
        have ev : vs' = vs := by
          have := (HO.lst.inj (Option.some.inj h2'))
          exact (int_map_inj this).symm
        subst ev
        exact h4
    have e2 : y2 = .int n := ry2
    refine ⟨l, vs.map V.int, y2, rfl, rfl, (hSH4 l (by simp [hlL])).trans h2, by rw [List.length_map, sizeLine_eq]; exact h5, ?_⟩
    have H5 : upd H4 l (.lst (vs.map V.int ++ [y2])) l = some (.lst ((vs ++ [n]).map V.int)) := by rw [upd_same, e2, List.map_append] <;> rfl
    have keep5 : ∀ x, x ≠ l → upd H4 l (.lst (vs.map V.int ++ [y2])) x = H4 x := fun x hx => upd_ne hx
    obtain ⟨ω', _, env5⟩ := env_mut (.on _ oMeet (meetS xs j kk n)) (fun p => ω p = some i) env4 hσ (H' := upd H4 l (.lst (vs.map V.int ++ [y2]))) (fun p _ hp => keep5 p fun z => hp (z ▸ hS l (by simp [hlL]))) (fun p hp => by
        by_cases c : p = l
        · rw [c, H5]; exact fun z => nomatch z
        · rw [keep5 p c]; exact hp) (fun p hp => ⟨(env4.own p i hp).1, by
        by_cases c : p = l
        · rw [c, H5]; exact fun z => nomatch z
        · rw [keep5 p c]; exact (env4.own p i hp).2.1, .inl hp⟩) (by
        refine ⟨_, rfl, pp, L, rfl, ?_, ?_, hnd, hS⟩
        · rw [keep5 pp (fun z => hpn (z ▸ hlL)), hSH4 pp (by simp)]; exact hp
        · have := g7 (upd H4 l (.lst (vs.map V.int ++ [y2]))) A (addTo xs[j] kk n) (by rw [keep5 dq (fun z => (g5 l h3).2 hnd2 z.symm), hSH4 dq (by simp [g4])]; exact g2)
            (h4 _ H5 (fun x hx hxl => by rw [keep5 x hxl]; exact hSH4 x (by simp [(g5 x hx).1])) (g6 hnd2)) (fun x hx hxq hxA => by rw [keep5 x (fun z => hxA (z ▸ h3))]; exact hSH4 x (by simp [hx])) hnd2
          rw [hset] at this
          unfold meetS
          rw [hg]
          exact this)
    exact hr _ σ F4 _ ω' En env5 (Post.imp q fun b z => EndOk.up z ((s1.ff.trans s2.ff).trans s4.ff))
  · -- a new key
    intro hv
    have h4 : ∀ n (D : Addr) (H' : Hp), H' D = some (.lst ([n].map V.int)) → (∀ x ∈ A.map (·.2), H' x = H x) → LL H' (A ++ [(kk, D)]) (addTo xs[j] kk n) := fun n => by
      rcases ll_find kk n g3 with ⟨_, h2⟩ | ⟨l, vs, h1, _⟩
      · exact h2
      · rw [h1] at hv; cases hv
    have hput : putK (kvA A) (ki kk) (V.ref D) = kvA (A ++ [(kk, D)]) := by
      rw [putK_new _ hv]
      simp [kvA]
    rw [hput]
    have hdD : dq ≠ D := hDn dq (by simp [g4])
    have hD3 : upd (upd H2 D (.lst [])) dq (.dK (kvA (A ++ [(kk, D)]))) D = some (.lst []) := by rw [upd_ne hdD.symm, upd_same]
    have keep3 : ∀ x, x ≠ dq → upd (upd H2 D (.lst [])) dq (.dK (kvA (A ++ [(kk, D)]))) x = upd H2 D (.lst []) x := fun x hx => upd_ne hx
    obtain ⟨ω3, hω3, env3'⟩ := env_mut .any (fun p => ω p = some i ∨ p = D) env2 hσ (H' := upd (upd H2 D (.lst [])) dq (.dK (kvA (A ++ [(kk, D)])))) (fun p hp hp2 => by
        rw [keep3 p (fun z => hp2 (z ▸ hS dq (by simp [g4]))), upd_ne (fun z : p = D => hp (by rw [z]; exact hD))]) (fun p hp => by
        by_cases c : p = dq
        · rw [c, upd_same]; exact fun z => nomatch z
        · rw [keep3 p c, upd_ne (fun z : p = D => hp (by rw [z]; exact hD))]; exact hp) (fun p hp => by
        rcases hp with hp | hp
        · refine ⟨(env2.own p i hp).1, ?_, .inl hp⟩
          by_cases c : p = dq
          · rw [c, upd_same]; exact fun z => nomatch z
          · rw [keep3 p c]
            exact (env3.own p i hp).2.1
        · subst hp
          exact ⟨hFD, (by rw [hD3]; exact fun z => nomatch z), .inr hD⟩) trivial
    refine ⟨.inl ⟨rfl, [], SqL.of hD3⟩, hn σ F2 _ ω3 _ env3' (q.bind.imp fun n q y2 F4 H4 s4 ry2 => ?_)⟩
    have env4 := env3'.stp s4
    have e2 : y2 = .int n := ry2
    have ho3 : ∀ p, (ω p = some i ∨ p = D) → H4 p = upd (upd H2 D (.lst [])) dq (.dK (kvA (A ++ [(kk, D)]))) p := fun p hp => same_at s4.hh (env3'.own p i ((hω3 p).mpr hp)).2.1
    have hD4 : H4 D = some (.lst []) := (ho3 D (.inr rfl)).trans hD3
    have hSH4 : ∀ y ∈ pp :: adrs L, y ≠ dq → H4 y = H y := fun y hy hq => by rw [ho3 y (.inl (hS y hy)), keep3 y hq, upd_ne (hDn y hy), hSH2 y hy]
    refine ⟨D, [], y2, rfl, rfl, hD4, by rw [sizeLine_eq]; simp, ?_⟩
    have H5 : upd H4 D (.lst ([] ++ [y2])) D = some (.lst ([n].map V.int)) := by rw [upd_same, e2] <;> rfl
    have keep5 : ∀ x, x ≠ D → upd H4 D (.lst ([] ++ [y2])) x = H4 x := fun x hx => upd_ne hx
    obtain ⟨ω', _, env5⟩ := env_mut (.on _ oMeet (meetS xs j kk n)) (fun p => ω p = some i ∨ p = D) env4 hσ (H' := upd H4 D (.lst ([] ++ [y2]))) (fun p _ hp => keep5 p fun z => hp ((hω3 p).mpr (.inr z))) (fun p hp => by
        by_cases c : p = D
        · rw [c, H5]; exact fun z => nomatch z
        · rw [keep5 p c]; exact hp) (fun p hp => by
        have hp' := (hω3 p).mpr hp
        refine ⟨(env4.own p i hp').1, ?_, .inl hp'⟩
        by_cases c : p = D
        · rw [c, H5]; exact fun z => nomatch z
        · rw [keep5 p c]; exact (env4.own p i hp').2.1) (by
        have hpm := g9 kk D
        refine ⟨_, rfl, pp, L.set j (dq, A ++ [(kk, D)]), rfl, ?_, ?_, ?_, fun x hx => ?_⟩
        · rw [keep5 pp (hDn pp (by simp)), hSH4 pp (by simp) (fun z => hpn (z ▸ g4)), g8]; exact hp
        · have := g7 (upd H4 D (.lst ([] ++ [y2]))) (A ++ [(kk, D)]) (addTo xs[j] kk n) (by rw [keep5 dq hdD, ho3 dq (.inl (hS dq (by simp [g4]))), upd_same])
            (h4 n D _ H5 (fun x hx => by rw [keep5 x (hDn x (by simp [(g5 x hx).1]))]; exact hSH4 x (by simp [(g5 x hx).1]) ((g5 x hx).2 hnd2))) (fun x hx hxq hxA => by rw [keep5 x (hDn x (by simp [hx]))]; exact hSH4 x (by simp [hx]) hxq) hnd2
          unfold meetS
          rw [hg]
          exact this
        · refine (List.Perm.cons pp hpm).nodup_iff.mpr ?_
          refine List.nodup_cons.mpr ⟨fun z => ?_, List.nodup_cons.mpr ⟨fun z => hDn D (by simp [z]) rfl, hnd2⟩⟩
          rcases List.mem_cons.mp z with z | z
          · exact hDn pp (by simp) z
          · exact hpn z
        · rcases List.mem_cons.mp hx with z | z
          · exact .inl (hS x (by simp [z]))
          · rcases List.mem_cons.mp (hpm.mem_iff.mp z) with z | z
            · exact .inr z
            · exact .inl (hS x (by simp [z])))
    rw [List.set_set] at env5
    exact hr _ σ F4 _ ω' En env5 (Post.imp q fun b z => EndOk.up z ((s1.ff.trans s2.ff).trans s4.ff))
/-- ({}, {}) -/
theorem wo_meet0 {p1 p2 pos : Pos} {j : Nat} (h1 : starEach (.Dict [] [] p1 :: .Dict [] [] p2 :: []) X.env = (false, eval (.Dict [] [] p1) X.env) :: starEach (.Dict [] [] p2 :: []) X.env := by rfl) (h2 : starEach (.Dict [] [] p2 :: []) X.env = (false, eval (.Dict [] [] p2) X.env) :: starEach [] X.env := by rfl) :
    WO X E B Γ (.Tuple [.Dict [] [] p1, .Dict [] [] p2] j pos) oMeet (pure [[], []]) := fun σ F H ω Q en q => by
  refine ⟨_, pe_tup (pa_cons pe_dnewK (pa_cons pe_dnewK pa_nil h2) h1), fun q0 hq0 q1 hq1 => ⟨le_line (by simp), fun p hp => ?_⟩⟩
  have n01 : q1 ≠ q0 := fun z => by rw [z, upd_same] at hq1; cases hq1
  have hq1' : H q1 = none := by rw [upd_ne n01] at hq1; exact hq1
  have np1 : p ≠ q1 := fun z => by rw [z, upd_same] at hp; cases hp
  have np0 : p ≠ q0 := fun z => by rw [z, upd_ne n01.symm, upd_same] at hp; cases hp
  have hp' : H p = none := by rw [upd_ne np1, upd_ne np0] at hp; exact hp
  have s1 := Stp.newH (o := .dK []) en.fh hq0
  have s2 := s1.trans (Stp.newH (o := .dK []) s1.fh hq1)
  have s3 := s2.trans (Stp.newH (o := .tup [.ref q0, .ref q1]) s2.fh hp)
  have a0 : upd (upd (upd H q0 (.dK [])) q1 (.dK [])) p (.tup [.ref q0, .ref q1]) q0 = some (.dK []) := by rw [upd_ne np0.symm, upd_ne n01.symm, upd_same]
  have a1 : upd (upd (upd H q0 (.dK [])) q1 (.dK [])) p (.tup [.ref q0, .ref q1]) q1 = some (.dK []) := by rw [upd_ne np1.symm, upd_same]
  refine q (.ref p) F _ (fun x => x = p ∨ x = q0 ∨ x = q1) s3 (fun x hx => ?_) ⟨p, [(q0, []), (q1, [])], rfl, upd_same, .cons a0 .nil (.cons a1 .nil .nil), ?_, fun x hx => ?_⟩
  · rcases hx with rfl | rfl | rfl
    · exact ⟨en.fh.free hp', (by rw [upd_same]; exact fun z => nomatch z), hp'⟩
    · exact ⟨en.fh.free hq0, (by rw [a0]; exact fun z => nomatch z), hq0⟩
    · exact ⟨en.fh.free hq1', (by rw [a1]; exact fun z => nomatch z), hq1'⟩
  · simp [adrs, np0, np1, n01.symm]
  · simpa [adrs] using hx
end SL

set_option Elab.async false
set_option linter.all false
set_option maxRecDepth 100000
set_option maxHeartbeats 2000000
/-! SLq: frozen data. -/
namespace SL
open PySem PySem.Spec PyProof.Rows L2
variable {X : Cx} {N : List Str} {sc : Scp} {k : Nat} {E : XK} {B : Bs} {Γ : List Slot}
mutual
/-- all lists are tuples -/
def frzD : PyData → PyData
  | .list xs => .tuple (frzDs xs)
  | .tuple xs => .tuple (frzDs xs)
  | d => d
def frzDs : List PyData → List PyData
  | [] => []
  | x :: xs => frzD x :: frzDs xs
end
theorem frzDs_map (xs : List PyData) : frzDs xs = xs.map frzD := by
  induction xs with
  | nil => rfl
  | cons x xs ih => rw [frzDs, ih]; rfl
/-- data of depth n at most -/
def tDn (n : Nat) : Ty PyData := ⟨fun K F v a => Dp K F v a ∧ a.depth ≤ n, fun s h => ⟨dp_mono s h.1, h.2⟩⟩
theorem fa_dn {K : PySem.W.Frag} {F : Hp} {n : Nat} : ∀ {xs : List PyData} {vs : List V}, DpAll K F vs xs → PyData.depthAll xs ≤ n → Fa2 ((tDn n).rel K F) vs xs
  | [], _, h, _ => by cases h; exact .nil
  | x :: xs, _, h, hd => by
    cases h with
    | cons h1 h2 =>
      simp only [PyData.depthAll] at hd
      exact .cons ⟨h1, by omega⟩ (fa_dn h2 (by omega))
theorem dn_list {K : PySem.W.Frag} {F : Hp} {n : Nat} {v : V} {xs : List PyData} (h : (tDn n).rel K F v (.list xs)) : ∃ m, n = m + 1 ∧ (tLstQ (tDn m)).rel K F v xs := by
  obtain ⟨h, hd⟩ := h
  simp only [PyData.depth] at hd
  refine ⟨n - 1, by omega, ?_⟩
  cases h with
  | lst q r => exact ⟨_, _, rfl, q, fa_dn r (by omega)⟩
theorem dn_tuple {K : PySem.W.Frag} {F : Hp} {n : Nat} {v : V} {xs : List PyData} (h : (tDn n).rel K F v (.tuple xs)) : ∃ m, n = m + 1 ∧ (tTup (tDn m)).rel K F v xs := by
  obtain ⟨h, hd⟩ := h
  simp only [PyData.depth] at hd
  refine ⟨n - 1, by omega, ?_⟩
  cases h with
  | tup q r => exact ⟨_, _, rfl, q, fa_dn r (by omega)⟩
theorem depth_list {xs : List PyData} {n : Nat} (h : (PyData.list xs).depth ≤ n) : ∃ m, n = m + 1 := ⟨n - 1, by simp only [PyData.depth] at h; omega⟩
theorem depth_tuple {xs : List PyData} {n : Nat} (h : (PyData.tuple xs).depth ≤ n) : ∃ m, n = m + 1 := ⟨n - 1, by simp only [PyData.depth] at h; omega⟩
/-- a slot's fact told otherwise -/
theorem ws_conv (i : Nat) {β : Type} {D : β → SOut} {bs : List (List Stmt)} {m : Out β} {α γ : Type} {T : Ty α} {U : Ty γ} {a : α} {b : γ} (h : ∀ K F v, T.rel K F v a → U.rel K F v b) (hΓ : Γ[i]? = some (iS T a)) (hr : WS X E B (Γ.set i (iS U b)) bs m D) : WS X E B Γ bs m D := fun σ F H ω En en q => by
  refine hr σ F H ω En ⟨en.base, by rw [List.length_set, en.len], en.own, fun j s hj => ?_⟩ q
  by_cases c : i = j
  · subst c
    rw [List.getElem?_set_self (List.getElem?_eq_some_iff.mp hΓ).1] at hj
    cases hj
    obtain ⟨v, e, r⟩ := en.slot i _ hΓ
    exact ⟨v, e, h _ _ _ r⟩
  · rw [List.getElem?_set_ne c] at hj
    exact en.slot j s hj
/-- what a slot's data promise -/
theorem ws_have (i : Nat) {β : Type} {D : β → SOut} {bs : List (List Stmt)} {m : Out β} {α : Type} {T : Ty α} {a : α} {P : Prop} (h : ∀ K F v, T.rel K F v a → P) (hΓ : Γ[i]? = some (iS T a)) (hr : P → WS X E B Γ bs m D) : WS X E B Γ bs m D := fun σ F H ω En en q => by
  obtain ⟨v, e, r⟩ := en.slot i _ hΓ
  exact hr (h _ _ _ r) σ F H ω En en q
theorem mapO_pure {α β : Type} (f : α → β) : ∀ xs : List α, mapO (fun x => pure (f x)) xs = pure (xs.map f)
  | [] => rfl
  | x :: xs => by
    unfold mapO
    rw [mapO_pure f xs]
    rfl
theorem dp_D : DpT tD (fun d => d) := fun K F v a h => h
theorem dp_dn {n : Nat} : DpT (tDn n) (fun d => d) := fun K F v a h => h.1
theorem tupD {K : PySem.W.Frag} {F : Hp} {v : V} {a : List PyData} (h : (tTup tD).rel K F v a) : tD.rel K F v (.tuple a) := by
  have := dp_tup dp_D K F v a h
  simp only [List.map_id'] at this
  exact this
/-- where the data are of a form -/
theorem WE.as {e : Expr} {α β : Type} {T : Ty α} {U : Ty β} {m : Out α} {f : α → Out β} (h : WE X E B Γ e T.rl m) (hf : ∀ a b, f a = .ok b → ∀ K F v, T.rel K F v a → U.rel K F v b) (he : ∀ a x, f a ≠ .err x) : WE X E B Γ e U.rl (m >>= f) := fun σ F H ω Q en q =>
  h σ F H ω Q en (q.bind.imp fun a q v F' H' s r => by
    cases e : f a with
    | ok b => rw [e] at q; exact q v F' H' s (hf a b e _ _ _ r)
    | err x => exact absurd e (he a x)
    | stuck => rw [e] at q; exact q.elim)
/-- data that are ints -/
def asInt : PyData → Out Int
  | .int i => pure i
  | _ => .stuck
def asAll {α : Type} (f : PyData → Out α) : List PyData → Out (List α)
  | [] => pure []
  | x :: xs => match f x, asAll f xs with
    | .ok a, .ok as => .ok (a :: as)
    | _, _ => .stuck
def asTup {α : Type} (f : PyData → Out α) : PyData → Out (List α)
  | .tuple xs => asAll f xs
  | _ => .stuck
def asT2 {α β : Type} (f : PyData → Out α) (g : PyData → Out β) : PyData → Out (α × β)
  | .tuple [x, y] => match f x, g y with
    | .ok a, .ok b => .ok (a, b)
    | _, _ => .stuck
  | _ => .stuck
/-- f reads the data of T -/
structure As {α : Type} (f : PyData → Out α) (T : Ty α) : Prop where
  ok : ∀ d a, f d = .ok a → ∀ K F v, Dp K F v d → T.rel K F v a
  ne : ∀ d x, f d ≠ .err x
theorem as_int : As asInt tInt := ⟨fun d a e K F v h => by
  cases h <;> simp [asInt] at e
  cases e
  rfl, fun d x e => by cases d <;> simp [asInt] at e <;> cases e⟩
theorem as_all {α : Type} {f : PyData → Out α} {T : Ty α} (hf : As f T) : ∀ (xs : List PyData) (as : List α), asAll f xs = .ok as → ∀ K F vs, DpAll K F vs xs → Fa2 (T.rel K F) vs as
  | [], as, e, K, F, vs, h => by
    cases e
    cases h
    exact .nil
  | x :: xs, as, e, K, F, vs, h => by
    unfold asAll at e
    cases e1 : f x with
    | ok a =>
      cases e2 : asAll f xs with
      | ok as' =>
        simp only [e1, e2] at e
        cases e
        cases h with
        | cons h1 h2 => exact .cons (hf.ok x a e1 K F _ h1) (as_all hf xs as' e2 K F _ h2)
      | err z => simp only [e1, e2] at e; cases e
      | stuck => simp only [e1, e2] at e; cases e
    | err z => simp only [e1] at e; cases e
    | stuck => simp only [e1] at e; cases e
theorem asAll_ne {α : Type} (f : PyData → Out α) (xs : List PyData) (x : Err) : asAll f xs ≠ .err x := by
  intro e
  cases xs with
  | nil => cases e
  | cons y ys =>
    unfold asAll at e
    split at e <;> cases e
theorem as_tup {α : Type} {f : PyData → Out α} {T : Ty α} (hf : As f T) : As (asTup f) (tTup T) where
  ok := fun d a e K F v h => by
    cases h with
    | tup q r => exact ⟨_, _, rfl, q, as_all hf _ _ e K F _ r⟩
    | _ => cases e
  ne := fun d x e => by
    cases d with
    | tuple xs => exact asAll_ne f xs x e
    | _ => cases e
end SL
namespace SL
open PySem PySem.Spec PyProof.Rows L2
variable {X : Cx} {N : List Str} {sc : Scp} {k : Nat} {E : XK} {B : Bs} {Γ : List Slot}
theorem we_as {e : Expr} {β : Type} {U : Ty β} {m : Out PyData} {f : PyData → Out β} (a : As f U) (h : WE X E B Γ e tD.rl m) : WE X E B Γ e U.rl (m >>= f) := h.as (fun d b e K F v r => a.ok d b e K F v r) a.ne
/-- what is known not to be None -/
def unO {α : Type} : Option α → Out α
  | some x => pure x
  | none => .stuck
theorem we_un {e : Expr} {α : Type} {T : Ty α} {m : Out (Option α)} (h : WE X E B Γ e (tOpt T).rl m) : WE X E B Γ e T.rl (m >>= unO) := h.as (fun a b e K F v r => by
  cases a with
  | none => cases e
  | some x => cases e; exact r.2) (fun a x e => by cases a <;> cases e)
end SL
namespace SL
open PySem PySem.Spec PyProof.Rows L2
variable {X : Cx} {N : List Str} {sc : Scp} {k : Nat} {E : XK} {B : Bs} {Γ : List Slot}
theorem ty_lstq {α : Type} {T : Ty α} : TyR (tLstQ T).rl fun _ => "list" := fun K F H v a s ⟨p, vs, e, q, r⟩ => by rw [e]; exact tyx_lst (s.seq q)
def isL : PyData → Bool
  | .list _ => true
  | _ => false
def isT : PyData → Bool
  | .tuple _ => true
  | _ => false
theorem kit_L : ∀ d, kitB (tyD d) "list" = some (isL d)
  | .none => by show kitB "NoneType" "list" = some false; decide +kernel
  | .bool _ => by show kitB "bool" "list" = some false; decide +kernel
  | .int _ => by show kitB "int" "list" = some false; decide +kernel
  | .str _ => by show kitB "str" "list" = some false; decide +kernel
  | .list _ => by show kitB "list" "list" = some true; decide +kernel
  | .tuple _ => by show kitB "tuple" "list" = some false; decide +kernel
  | .dict _ => by show kitB "dict" "list" = some false; decide +kernel
theorem kit_T : ∀ d, kitB (tyD d) "tuple" = some (isT d)
  | .none => by show kitB "NoneType" "tuple" = some false; decide +kernel
  | .bool _ => by show kitB "bool" "tuple" = some false; decide +kernel
  | .int _ => by show kitB "int" "tuple" = some false; decide +kernel
  | .str _ => by show kitB "str" "tuple" = some false; decide +kernel
  | .list _ => by show kitB "list" "tuple" = some false; decide +kernel
  | .tuple _ => by show kitB "tuple" "tuple" = some true; decide +kernel
  | .dict _ => by show kitB "dict" "tuple" = some false; decide +kernel
theorem ty_dn {n : Nat} : TyR (tDn n).rl tyD := fun K F H v a s h => ty_D K F H v a s h.1
theorem WE.dn {e : Expr} {n : Nat} {m : Out PyData} (h : WE X E B Γ e (tDn n).rl m) : WE X E B Γ e tD.rl m := fun σ F H ω Q en q => h σ F H ω Q en (q.imp fun a q v F' H' s r => q v F' H' s r.1)
def dnO (n : Nat) (d : PyData) : Out PyData := if d.depth ≤ n then pure d else .stuck
theorem we_dn {e : Expr} {n : Nat} {m : Out PyData} (h : WE X E B Γ e tD.rl m) : WE X E B Γ e (tDn n).rl (m >>= dnO n) := h.as (fun a b e K F v r => by
  unfold dnO at e
  by_cases c : a.depth ≤ n
  · rw [if_pos c] at e
    cases e
    exact ⟨r, c⟩
  · rw [if_neg c] at e
    cases e) (fun a x e => by
  unfold dnO at e
  by_cases c : a.depth ≤ n
  · rw [if_pos c] at e
    cases e
  · rw [if_neg c] at e
    cases e)
end SL

set_option Elab.async false
set_option linter.all false
set_option maxRecDepth 100000
set_option maxHeartbeats 2000000
/-! SLr: the law's own call, where defs may raise. -/
namespace SL
open PySem PySem.Spec PyProof.Rows L2
theorem walk_law {l : PySem.W.OpenLaw} {n k : Nat} {q : Program} {loose : List Str} {XP : (Str → Option Value) → Heap → Prop} {YP : World → Heap → Prop} {d : DefRec} {x : Str} {m : List Int → Out Bool}
    (hn : l.most = some n) (hn2 : n ≤ sizeLine) (hdf : d.params.defaults = []) (hr : Room k callerA)
    (F : ∀ (w : World) (mg : Str → Option Value) (fa : Addr) (h : Heap), YP w h → h.Ns mainGlobals mg → mg d.name = some (.ref fa) →
      ∃ (K : PySem.W.Frag) (fd : FuncData), K.In h ∧ (∀ (s : Shared) (u : Value), BindsTo s fd ⟨[u], []⟩ [(x, u)]) ∧
        ∀ base : Heap, K.In base → base.Ns mainGlobals mg → FnG l.prog w K mg base (L2.CX l.prog w) k fa fd [x] (Sps (pC (tLstQ tInt) pN) (fun i => m i.1) tBool K))
    (M : ∀ ns : List Int, ns.length ≤ n → m ns = pure true) :
    PySem.W.WalkO q loose XP YP l.row.toRowW d [] (fun f vs => PySem.call f vs) := by
  refine Att.attach_call hn hdf fun w s₀ s₁ mg mb fa o pm cd doc a vs ns G Y ho hd hcd hmg hobj hints hlen hg => ?_
  obtain ⟨K, fd, KX, hb, hF⟩ := F w mg fa _ Y G.T.g hmg
  refine lawG KX G.T.g G.T.b G.T.builtins G.T.nolimit hg hobj hints (Nat.le_trans hlen hn2) hr hF hb (fun H hO hS => ?_) (fun H e s' ⟨_, _, _, _, _, _, _, _, _, _, _, _, h⟩ => h)
  refine ⟨(ns, ()), H, Same.refl H, ⟨.ref a, [], rfl, ⟨a, _, rfl, hS, int_fa2 ns⟩, rfl⟩, ?_⟩
  show Post (m ns) _ _
  rw [M ns hlen]
  exact fun v F' H' _ h => h
end SL

set_option Elab.async false
set_option linter.all false
set_option maxRecDepth 100000
set_option maxHeartbeats 2000000
/-! SM: plain mathematics of outcomes. -/
namespace SM
open PySem PySem.Spec PyProof.Rows L2 SL
theorem pbind {α β : Type} (a : α) (f : α → Out β) : ((pure a : Out α) >>= f) = f a := rfl
theorem bindp {α : Type} (m : Out α) : (m >>= fun a => pure a) = m := by cases m <;> rfl
/-! ### loops -/
theorem forO_inv {α S : Type} {f : S → α → Out S} (I : Nat → S → Prop) : ∀ (xs : List α) (k : Nat) (s : S), I k s → (∀ i s x, xs[i]? = some x → I (k + i) s → ∃ s', f s x = pure s' ∧ I (k + i + 1) s') → ∃ s', forO f xs s = pure s' ∧ I (k + xs.length) s'
  | [], k, s, h, _ => ⟨s, rfl, h⟩
  | x :: xs, k, s, h, hs => by
    obtain ⟨s1, e1, h1⟩ := hs 0 s x rfl h
    obtain ⟨s2, e2, h2⟩ := forO_inv I xs (k + 1) s1 h1 (fun i s y hy hi => by
      have := hs (i + 1) s y (by simpa using hy) (by rw [show k + (i + 1) = k + 1 + i by omega]; exact hi)
      rw [show k + (i + 1) + 1 = k + 1 + i + 1 by omega] at this
      exact this)
    refine ⟨s2, ?_, by rw [List.length_cons, show k + (xs.length + 1) = k + 1 + xs.length by omega]; exact h2⟩
    unfold forO
    rw [e1, pbind]
    exact e2
/-- from 0 -/
theorem forO_inv0 {α S : Type} {f : S → α → Out S} (I : Nat → S → Prop) (xs : List α) (s : S) (h : I 0 s) (hs : ∀ i s x, xs[i]? = some x → I i s → ∃ s', f s x = pure s' ∧ I (i + 1) s') : ∃ s', forO f xs s = pure s' ∧ I xs.length s' := by
  obtain ⟨s', e, h'⟩ := forO_inv I xs 0 s h (fun i s x hx hi => by
    rw [Nat.zero_add] at hi ⊢
    exact hs i s x hx hi)
  exact ⟨s', e, by rw [Nat.zero_add] at h'; exact h'⟩
theorem forO_foldl {α S : Type} {f : S → α → Out S} {g : S → α → S} : ∀ (xs : List α) (s : S), (∀ s x, x ∈ xs → f s x = pure (g s x)) → forO f xs s = pure (xs.foldl g s)
  | [], s, _ => rfl
  | x :: xs, s, h => by
    unfold forO
    rw [h s x (by simp), pbind, forO_foldl xs (g s x) fun s y hy => h s y (by simp [hy])]
    rfl
theorem while_inv {S : Type} {c : S → Out Bool} {f : S → Out S} {Q : S → Prop} (I : Nat → S → Prop) (h : ∀ m s, I m s → (c s = pure false ∧ Q s) ∨ (∃ m', m' < m ∧ c s = pure true ∧ ∃ s', f s = pure s' ∧ I m' s')) :
    ∀ (n m : Nat) (s : S), m < n → I m s → ∃ s', whileO c f n s = pure s' ∧ Q s'
  | 0, m, s, hm, _ => absurd hm (by omega)
  | n + 1, m, s, hm, hi => by
    unfold whileO
    rcases h m s hi with ⟨e, q⟩ | ⟨m', hm', e, s', es, hi'⟩
    · rw [e]
      exact ⟨s, rfl, q⟩
    · rw [e, pbind, if_pos rfl, es, pbind]
      exact while_inv I h n m' s' (by omega) hi'
theorem mapO_ok {α β : Type} {f : α → Out β} {g : α → β} : ∀ xs : List α, (∀ x ∈ xs, f x = pure (g x)) → mapO f xs = pure (xs.map g)
  | [], _ => rfl
  | x :: xs, h => by
    unfold mapO
    rw [h x (by simp), mapO_ok xs fun y hy => h y (by simp [hy])]
    rfl
theorem mapO_ex {α β : Type} {f : α → Out β} : ∀ xs : List α, (∀ x ∈ xs, ∃ y, f x = pure y) → ∃ ys, mapO f xs = pure ys ∧ ys.length = xs.length ∧ ∀ (i : Nat) x y, xs[i]? = some x → ys[i]? = some y → f x = pure y
  | [], _ => ⟨[], rfl, rfl, fun i x y h => by simp at h⟩
  | x :: xs, h => by
    obtain ⟨y, e⟩ := h x (by simp)
    obtain ⟨ys, e2, l, g⟩ := mapO_ex xs fun z hz => h z (by simp [hz])
    refine ⟨y :: ys, ?_, by simp [l], fun i a b ha hb => ?_⟩
    · unfold mapO
      rw [e, e2]
      rfl
    · cases i with
      | zero =>
        simp at ha hb
        subst ha hb
        exact e
      | succ i => exact g i a b (by simpa using ha) (by simpa using hb)
theorem compO_ok {α β : Type} {c : α → Out Bool} {m : α → Out β} {p : α → Bool} {g : α → β} : ∀ xs : List α, (∀ x ∈ xs, c x = pure (p x)) → (∀ x ∈ xs, p x = true → m x = pure (g x)) → compO (fun x => ifO (c x) (m x)) xs = pure ((xs.filter p).map g)
  | [], _, _ => rfl
  | x :: xs, h1, h2 => by
    have ih := compO_ok xs (fun y hy => h1 y (by simp [hy])) (fun y hy => h2 y (by simp [hy]))
    cases e : p x with
    | false =>
      have e2 : ifO (c x) (m x) = .ok none := by unfold ifO; rw [h1 x (by simp), e]; rfl
      rw [List.filter_cons_of_neg (by simp [e])]
      unfold compO
      rw [e2]
      exact ih
    | true =>
      have e2 : ifO (c x) (m x) = .ok (some (g x)) := by
        unfold ifO
        rw [h1 x (by simp), e, pbind, if_pos rfl, h2 x (by simp) e]
        rfl
      rw [List.filter_cons_of_pos e, List.map_cons]
      unfold compO
      rw [e2]
      simp only [ih]
      rfl
/-- no test -/
theorem comp2_flat {α β γ : Type} {f : α → Out (List β)} {h : α → List β} {g : α → β → γ} : ∀ xs : List α, (∀ x ∈ xs, f x = pure (h x)) → comp2O f (fun a b => ifO (pure true) (pure (g a b))) xs = pure (xs.flatMap fun x => (h x).map (g x))
  | [], _ => rfl
  | x :: xs, hf => by
    unfold comp2O
    rw [hf x (by simp), comp2_flat xs fun y hy => hf y (by simp [hy])]
    have e : compO (fun b => ifO (pure true) (pure (g x b))) (h x) = pure ((h x).map (g x)) := by
      have := compO_ok (c := fun _ => pure true) (m := fun b => (pure (g x b) : Out γ)) (p := fun _ => true) (g := g x) (h x) (fun _ _ => rfl) (fun _ _ _ => rfl)
      rw [this, List.filter_eq_self.mpr (fun _ _ => rfl)]
    simp only [pure_ok] at e ⊢
    simp only [e]
    rfl
theorem limO_ok {α : Type} {xs : List α} (h : xs.length ≤ 16777216) : limO xs = pure xs := if_pos h

/-! ### sequences -/
theorem ixN_nat {n k : Nat} (h : k < n) : ixN n (k : Int) = some k := by
  unfold ixN
  rw [if_pos (by omega), if_pos (by omega)]
  simp
theorem idx_nat {α : Type} {xs : List α} {k : Nat} {a : α} (h : xs[k]? = some a) : idx xs (k : Int) = pure a := by
  have hk := (List.getElem?_eq_some_iff.mp h).1
  unfold idx atI
  rw [ixN_nat hk]
  show (match xs[k]? with | some v => pure v | none => Out.stuck) = _
  rw [h]
theorem idx_int {α : Type} {xs : List α} {i : Int} {a : α} (h0 : 0 ≤ i) (h : xs[i.toNat]? = some a) : idx xs i = pure a := by
  have := idx_nat h
  rwa [Int.toNat_of_nonneg h0] at this
theorem idx_lt {α : Type} {xs : List α} {i : Int} (h0 : 0 ≤ i) (h : i < xs.length) : ∃ a, idx xs i = pure a ∧ xs[i.toNat]? = some a := by
  have hk : i.toNat < xs.length := by omega
  exact ⟨xs[i.toNat], idx_int h0 (List.getElem?_eq_getElem hk), List.getElem?_eq_getElem hk⟩
theorem appO_ok {α : Type} {xs : List α} {x : α} (h : xs.length < 16777216) : appO xs x = pure (xs ++ [x]) := if_pos h
theorem catO_ok {α : Type} {xs ys : List α} (h : xs.length + ys.length ≤ 16777216) : catO xs ys = pure (xs ++ ys) := if_pos h
theorem setO_nat {α : Type} {xs : List α} {k : Nat} {x : α} (h : k < xs.length) : setO xs (k : Int) x = pure (xs.set k x) := by
  unfold setO ixO
  rw [ixN_nat h]
  rfl
theorem rangeO_nat {n : Nat} (h : n ≤ 16777216) : rangeO (n : Int) = pure (upto n) := by
  unfold rangeO
  rw [if_pos (by omega)]
  simp
theorem upto_get {n i : Nat} (h : i < n) : (upto n)[i]? = some (i : Int) := by simp [upto, h]
theorem upto_at {n i : Nat} {x : Int} (h : (upto n)[i]? = some x) : x = (i : Int) ∧ i < n := by
  have hi := (List.getElem?_eq_some_iff.mp h).1
  rw [upto_len] at hi
  rw [upto_get hi] at h
  exact ⟨(Option.some.inj h).symm, hi⟩
theorem upto_mem {n : Nat} {x : Int} : x ∈ upto n ↔ 0 ≤ x ∧ x < n := by
  unfold upto
  rw [List.mem_map]
  constructor
  · rintro ⟨i, hi, rfl⟩
    rw [List.mem_range] at hi
    omega
  · intro h
    exact ⟨x.toNat, List.mem_range.mpr (by omega), by omega⟩
theorem upto_succ (n : Nat) : upto (n + 1) = upto n ++ [(n : Int)] := by simp [upto, List.range_succ]
theorem rep_len {α : Type} (a : α) : ∀ n : Nat, (List.replicate n [a]).flatten = List.replicate n a
  | 0 => rfl
  | n + 1 => by rw [List.replicate_succ, List.flatten_cons, rep_len a n]; rfl
theorem repO_nat {α : Type} {a : α} {n : Nat} (h : n ≤ 16777216) : repO [a] (n : Int) = pure (List.replicate n a) := by
  unfold repO
  rw [if_pos ⟨by omega, by simp; omega, by omega⟩]
  simp [rep_len]
theorem cut_take {α : Type} (xs : List α) (n : Nat) : cut xs none (some (n : Int)) = xs.take n := by
  unfold cut
  show (xs.drop 0).take (HT.sIx xs.length xs.length (some (n : Int)) - 0) = _
  rw [HT.sIx_nat, List.drop_zero, Nat.sub_zero]
  by_cases h : n ≤ xs.length
  · rw [Nat.min_eq_left h]
  · rw [Nat.min_eq_right (by omega), List.take_of_length_le (Nat.le_refl _), List.take_of_length_le (by omega)]
theorem cut_mid {α : Type} (xs : List α) (a b : Nat) : cut xs (some (a : Int)) (some (b : Int)) = (xs.drop (min a xs.length)).take (min b xs.length - min a xs.length) := by
  unfold cut
  rw [HT.sIx_nat, HT.sIx_nat]
theorem mulO_r {i j : Int} (h1 : -(2 ^ 64) < j) (h2 : j < 2 ^ 64) : mulO i j = pure (i * j) := if_pos (.inr ⟨h1, h2⟩)
theorem modO_ok {i j : Int} (h : 0 < j) : modO i j = pure (i % j) := if_pos h
theorem divO_ok {i j : Int} (h : 0 < j) (h2 : j < 1073741824) : divO i j = pure (i / j) := if_pos ⟨h, h2⟩
end SM

set_option Elab.async false
set_option linter.all false
set_option maxRecDepth 100000
set_option maxHeartbeats 2000000
/-! SLs: own things within own things: boxes, what is read of them, ways into them. -/
namespace SL
open PySem PySem.Spec PyProof.Rows L2
variable {X : Cx} {N : List Str} {sc : Scp} {k : Nat} {E : XK} {B : Bs} {Γ : List Slot}
abbrev Fp := Addr → Prop

/-! ### boxes -/
inductive Its {α : Type} (R : Fp → V → α → Prop) : List Fp → List V → List α → Prop where
  | nil : Its R [] [] []
  | cons {s : Fp} {v : V} {a : α} {ss : List Fp} {vs : List V} {as : List α} : R s v a → Its R ss vs as → Its R (s :: ss) (v :: vs) (a :: as)
theorem Its.len {α : Type} {R : Fp → V → α → Prop} {ss : List Fp} {vs : List V} {as : List α} (h : Its R ss vs as) : ss.length = as.length ∧ vs.length = as.length := by
  induction h with
  | nil => exact ⟨rfl, rfl⟩
  | cons _ _ ih => exact ⟨by simp [ih.1], by simp [ih.2]⟩
theorem Its.get {α : Type} {R : Fp → V → α → Prop} {ss : List Fp} {vs : List V} {as : List α} (h : Its R ss vs as) : ∀ {j : Nat} {a : α}, as[j]? = some a → ∃ s v, ss[j]? = some s ∧ vs[j]? = some v ∧ R s v a := by
  induction h with
  | nil => intro j a e; simp at e
  | cons r _ ih =>
    intro j a e
    cases j with
    | zero => simp at e; subst e; exact ⟨_, _, rfl, rfl, r⟩
    | succ j => simpa using ih (by simpa using e)
theorem Its.imp {α : Type} {R R' : Fp → V → α → Prop} {ss : List Fp} {vs : List V} {as : List α} (h : Its R ss vs as) (f : ∀ s ∈ ss, ∀ v a, R s v a → R' s v a) : Its R' ss vs as := by
  induction h with
  | nil => exact .nil
  | cons r _ ih => exact .cons (f _ (by simp) _ _ r) (ih fun s hs => f s (by simp [hs]))
theorem Its.app {α : Type} {R : Fp → V → α → Prop} {ss tt : List Fp} {vs ws : List V} {as bs : List α} (h : Its R ss vs as) (g : Its R tt ws bs) : Its R (ss ++ tt) (vs ++ ws) (as ++ bs) := by
  induction h with
  | nil => exact g
  | cons r _ ih => exact .cons r ih
/-- one item is another, the others by another relation -/
theorem Its.set {α : Type} {R R' : Fp → V → α → Prop} {ss : List Fp} {vs : List V} {as : List α} (h : Its R ss vs as) {s' : Fp} {v' : V} {a' : α} (r : R' s' v' a') : ∀ (j : Nat), (∀ i s v a, i ≠ j → ss[i]? = some s → R s v a → R' s v a) → Its R' (ss.set j s') (vs.set j v') (as.set j a') := by
  induction h with
  | nil => intro j _; simpa using Its.nil
  | @cons s v a ss vs as q t ih =>
    intro j hj
    cases j with
    | zero =>
      refine .cons r ?_
      clear ih
      have : ∀ i s v a, ss[i]? = some s → R s v a → R' s v a := fun i s v a e q => hj (i + 1) s v a (by simp) (by simpa using e) q
      clear hj r
      induction t with
      | nil => exact .nil
      | cons q t ih => exact .cons (this 0 _ _ _ rfl q) (ih fun i s v a e q => this (i + 1) s v a (by simpa using e) q)
    | succ j => exact .cons (hj 0 _ _ _ (by simp) rfl q) (ih j fun i s v a hi e q => hj (i + 1) s v a (by omega) (by simpa using e) q)
def bxRel {α : Type} (O : Own α) (mk : List V → HO) (K : PySem.W.Frag) (F H : Hp) (S : Fp) (v : V) (a : List α) : Prop :=
  ∃ p vs ss, v = .ref p ∧ S p ∧ H p = some (mk vs) ∧ Its (O.rel K F H) ss vs a ∧ (∀ s ∈ ss, ∀ q, s q → S q ∧ q ≠ p) ∧ ∀ (i j : Nat) s t, i ≠ j → ss[i]? = some s → ss[j]? = some t → ∀ q, s q → ¬ t q
def oBx (mk : List V → HO) {α : Type} (O : Own α) : Own (List α) := ⟨fun K F H S v a => bxRel O mk K F H S v a, fun ⟨p, vs, ss, e, sp, hp, it, hs, hd⟩ sf k =>
  ⟨p, vs, ss, e, sp, by rw [k p sp]; exact hp, it.imp fun s hm v a r => O.keep r sf fun q hq => k q (hs s hm q hq).1, hs, hd⟩⟩
abbrev oL {α : Type} (O : Own α) : Own (List α) := oBx HO.lst O
abbrev oTu {α : Type} (O : Own α) : Own (List α) := oBx HO.tup O
/-- own things of which the one at w, with the addresses s, may be changed -/
def SubAt (K : PySem.W.Frag) (F H : Hp) (S : Fp) (v : V) {α : Type} (O : Own α) {β : Type} (O' : Own β) (w : V) (b : β) (put : β → α) : Prop :=
  ∃ s : Fp, (∀ q, s q → S q) ∧ O'.rel K F H s w b ∧ ∀ F' H' s' b', Same F F' → (∀ q, S q → ¬ s q → H' q = H q) → (∀ q, s' q → s q ∨ ¬ S q) → O'.rel K F' H' s' w b' → O.rel K F' H' (fun q => (S q ∧ ¬ s q) ∨ s' q) v (put b')
theorem SubAt.refl {K : PySem.W.Frag} {F H : Hp} {S : Fp} {v : V} {α : Type} {O : Own α} {a : α} (h : O.rel K F H S v a) : SubAt K F H S v O O v a (fun b => b) := ⟨S, fun _ h => h, h, fun F' H' s' b' _ _ _ r => by
  have e : (fun q => (S q ∧ ¬ S q) ∨ s' q) = s' := funext fun q => propext ⟨fun z => z.resolve_left fun z => z.2 z.1, .inr⟩
  rw [e]
  exact r⟩
theorem SubAt.trans {K : PySem.W.Frag} {F H : Hp} {S s : Fp} {v w u : V} {α β γ : Type} {O : Own α} {O1 : Own β} {O2 : Own γ} {c : γ} {put : β → α} {put2 : γ → β} (hs : ∀ q, s q → S q)
    (up : ∀ F' H' s' b', Same F F' → (∀ q, S q → ¬ s q → H' q = H q) → (∀ q, s' q → s q ∨ ¬ S q) → O1.rel K F' H' s' w b' → O.rel K F' H' (fun q => (S q ∧ ¬ s q) ∨ s' q) v (put b'))
    (h2 : SubAt K F H s w O1 O2 u c put2) : SubAt K F H S v O O2 u c (fun x => put (put2 x)) := by
  obtain ⟨t, ht, r2, up2⟩ := h2
  refine ⟨t, fun q hq => hs q (ht q hq), r2, fun F' H' s' b' sf k hs' r3 => ?_⟩
  have q2 := up2 F' H' s' b' sf (fun q h1 h2 => k q (hs q h1) h2) (fun q hq => (hs' q hq).imp id fun n z => n (hs q z)) r3
  have q1 := up F' H' _ _ sf (fun q h1 h2 => k q h1 fun z => h2 (ht q z)) (fun q hq => by
    rcases hq with ⟨z, _⟩ | z
    · exact .inl z
    · rcases hs' q z with z | z
      · exact .inl (ht q z)
      · exact .inr z) q2
  have e : (fun q => (S q ∧ ¬ s q) ∨ ((s q ∧ ¬ t q) ∨ s' q)) = fun q => (S q ∧ ¬ t q) ∨ s' q := funext fun q => propext (by
    constructor
    · rintro (⟨x, y⟩ | ⟨x, y⟩ | x)
      · exact .inl ⟨x, fun z => y (ht q z)⟩
      · exact .inl ⟨hs q x, y⟩
      · exact .inr x
    · rintro (⟨x, y⟩ | x)
      · by_cases c : s q
        · exact .inr (.inl ⟨c, y⟩)
        · exact .inl ⟨x, c⟩
      · exact .inr (.inr x))
  rw [e] at q1
  exact q1
theorem SubAt.keep {K : PySem.W.Frag} {F H F' H' : Hp} {S : Fp} {v w : V} {α β : Type} {O : Own α} {O' : Own β} {b : β} {put : β → α} (h : SubAt K F H S v O O' w b put) (sf : Same F F') (k : ∀ q, S q → H' q = H q) : SubAt K F' H' S v O O' w b put := by
  obtain ⟨s, hs, r, up⟩ := h
  exact ⟨s, hs, O'.keep r sf fun q hq => k q (hs q hq), fun F2 H2 s' b' sf2 k2 hs' r' => up F2 H2 s' b' (sf.trans sf2) (fun q h1 h2 => (k2 q h1 h2).trans (k q h1)) hs' r'⟩
/-- the item at j of a box -/
theorem bx_sub0 {K : PySem.W.Frag} {F H : Hp} {S : Fp} {α : Type} {O : Own α} {mk : List V → HO} {a : List α} {p : Addr} {vs : List V} {ss : List Fp} (sp : S p) (hp : H p = some (mk vs)) (it : Its (O.rel K F H) ss vs a) (hs : ∀ s ∈ ss, ∀ q, s q → S q ∧ q ≠ p)
    (hd : ∀ (i j : Nat) s t, i ≠ j → ss[i]? = some s → ss[j]? = some t → ∀ q, s q → ¬ t q) {j : Nat} {b : α} (e : a[j]? = some b) : ∃ w, vs[j]? = some w ∧ SubAt K F H S (.ref p) (oBx mk O) O w b (fun x => a.set j x) := by
  obtain ⟨s, w, es, ew, r⟩ := it.get e
  have hm : s ∈ ss := List.mem_of_getElem? es
  refine ⟨w, ew, s, fun q hq => (hs s hm q hq).1, r, fun F' H' s' b' sf kk hs' r' => ?_⟩
  have hj : j < ss.length := (List.getElem?_eq_some_iff.mp es).1
  have ev : vs.set j w = vs := by
    have h1 := (List.getElem?_eq_some_iff.mp ew)
    obtain ⟨h1, h2⟩ := h1
    rw [← h2, List.set_getElem_self]
  refine ⟨p, vs, ss.set j s', rfl, .inl ⟨sp, fun z => (hs s hm p z).2 rfl⟩, by rw [kk p sp fun z => (hs s hm p z).2 rfl]; exact hp, ?_, ?_, ?_⟩
  · have := it.set (R' := O.rel K F' H') r' j fun i t u c hi et q => O.keep q sf fun x hx => kk x (hs t (List.mem_of_getElem? et) x hx).1 fun z => hd i j t s hi et es x hx z
    rw [ev] at this
    exact this
  · intro t ht q hq
    obtain ⟨i, et⟩ := List.mem_iff_getElem?.mp ht
    by_cases c : j = i
    · subst c
      rw [List.getElem?_set_self hj] at et
      cases et
      refine ⟨.inr hq, ?_⟩
      rcases hs' q hq with z | z
      · exact (hs s hm q z).2
      · exact fun x => z (x ▸ sp)
    · rw [List.getElem?_set_ne c] at et
      have := hs t (List.mem_of_getElem? et) q hq
      exact ⟨.inl ⟨this.1, fun z => hd j i s t c es et q z hq⟩, this.2⟩
  · intro i l t u hil et eu q hq hq2
    by_cases c : j = i
    · subst c
      rw [List.getElem?_set_self hj] at et
      cases et
      rw [List.getElem?_set_ne hil] at eu
      rcases hs' q hq with z | z
      · exact hd j l s u hil es eu q z hq2
      · exact z (hs u (List.mem_of_getElem? eu) q hq2).1
    · rw [List.getElem?_set_ne c] at et
      by_cases c2 : j = l
      · subst c2
        rw [List.getElem?_set_self hj] at eu
        cases eu
        rcases hs' q hq2 with z | z
        · exact hd i j t s (Ne.symm c) et es q hq z
        · exact z (hs t (List.mem_of_getElem? et) q hq).1
      · rw [List.getElem?_set_ne c2] at eu
        exact hd i l t u hil et eu q hq hq2
theorem bx_sub {K : PySem.W.Frag} {F H : Hp} {S : Fp} {v : V} {α : Type} {O : Own α} {mk : List V → HO} {a : List α} (h : (oBx mk O).rel K F H S v a) {j : Nat} {b : α} (e : a[j]? = some b) :
    ∃ p vs w, v = .ref p ∧ S p ∧ H p = some (mk vs) ∧ vs.length = a.length ∧ vs[j]? = some w ∧ SubAt K F H S v (oBx mk O) O w b (fun x => a.set j x) := by
  obtain ⟨p, vs, ss, rfl, sp, hp, it, hs, hd⟩ := h
  obtain ⟨w, ew, q⟩ := bx_sub0 sp hp it hs hd e
  exact ⟨p, vs, w, rfl, sp, hp, it.len.2, ew, q⟩
/-- a new item at j, at the end: the box itself is written -/
theorem bx_wr {K : PySem.W.Frag} {F H : Hp} {S : Fp} {v : V} {α : Type} {O : Own α} {mk : List V → HO} {a : List α} (h : (oBx mk O).rel K F H S v a) : ∃ p vs, v = .ref p ∧ S p ∧ H p = some (mk vs) ∧ vs.length = a.length ∧ (∀ (j : Nat) (b : α), a[j]? = some b → ∃ w, vs[j]? = some w ∧ SubAt K F H S v (oBx mk O) O w b (fun x => a.set j x)) ∧
    (∀ (mk' : List V → HO) (F' H' : Hp) (s' : Fp) (j : Nat) (w' : V) (b' : α), j < a.length → Same F F' → H' p = some (mk' (vs.set j w')) → (∀ q, S q → q ≠ p → H' q = H q) → (∀ q, s' q → ¬ S q) → O.rel K F' H' s' w' b' → (oBx mk' O).rel K F' H' (fun q => S q ∨ s' q) v (a.set j b')) ∧
    ∀ (mk' : List V → HO) (F' H' : Hp) (s' : Fp) (w' : V) (b' : α), Same F F' → H' p = some (mk' (vs ++ [w'])) → (∀ q, S q → q ≠ p → H' q = H q) → (∀ q, s' q → ¬ S q) → O.rel K F' H' s' w' b' → (oBx mk' O).rel K F' H' (fun q => S q ∨ s' q) v (a ++ [b']) := by
  obtain ⟨p, vs, ss, rfl, sp, hp, it, hs, hd⟩ := h
  refine ⟨p, vs, rfl, sp, hp, it.len.2, fun j b e => bx_sub0 sp hp it hs hd e, fun mk' F' H' s' j w' b' hj sf hp' kk hs' r' => ?_, fun mk' F' H' s' w' b' sf hp' kk hs' r' => ?_⟩
  · have hjs : j < ss.length := by rw [it.len.1]; exact hj
    refine ⟨p, vs.set j w', ss.set j s', rfl, .inl sp, hp', it.set (R' := O.rel K F' H') r' j fun i t u c hi et q => O.keep q sf fun x hx => kk x (hs t (List.mem_of_getElem? et) x hx).1 (hs t (List.mem_of_getElem? et) x hx).2, ?_, ?_⟩
    · intro t ht q hq
      obtain ⟨i, et⟩ := List.mem_iff_getElem?.mp ht
      by_cases c : j = i
      · subst c
        rw [List.getElem?_set_self hjs] at et
        cases et
        exact ⟨.inr hq, fun x => hs' q hq (x ▸ sp)⟩
      · rw [List.getElem?_set_ne c] at et
        have := hs t (List.mem_of_getElem? et) q hq
        exact ⟨.inl this.1, this.2⟩
    · intro i l t u hil et eu q hq hq2
      by_cases c : j = i
      · subst c
        rw [List.getElem?_set_self hjs] at et
        cases et
        rw [List.getElem?_set_ne hil] at eu
        exact hs' q hq (hs u (List.mem_of_getElem? eu) q hq2).1
      · rw [List.getElem?_set_ne c] at et
        by_cases c2 : j = l
        · subst c2
          rw [List.getElem?_set_self hjs] at eu
          cases eu
          exact hs' q hq2 (hs t (List.mem_of_getElem? et) q hq).1
        · rw [List.getElem?_set_ne c2] at eu
          exact hd i l t u hil et eu q hq hq2
  · refine ⟨p, vs ++ [w'], ss ++ [s'], rfl, .inl sp, hp', (it.imp fun t ht u c q => O.keep q sf fun x hx => kk x (hs t ht x hx).1 (hs t ht x hx).2).app (.cons r' .nil), ?_, ?_⟩
    · intro t ht q hq
      rcases List.mem_append.mp ht with z | z
      · exact ⟨.inl (hs t z q hq).1, (hs t z q hq).2⟩
      · rw [List.mem_singleton.mp z] at hq
        exact ⟨.inr hq, fun x => hs' q hq (x ▸ sp)⟩
    · intro i l t u hil et eu q hq hq2
      have lt : ∀ {i : Nat} {t : Fp}, (ss ++ [s'])[i]? = some t → (ss[i]? = some t ∧ i < ss.length) ∨ (t = s' ∧ i = ss.length) := fun {i t} e => by
        by_cases c : i < ss.length
        · rw [List.getElem?_append_left c] at e
          exact .inl ⟨e, c⟩
        · rw [List.getElem?_append_right (by omega)] at e
          by_cases c2 : i - ss.length = 0
          · rw [c2] at e
            simp at e
            exact .inr ⟨e.symm, by omega⟩
          · rw [List.getElem?_eq_none (by simp; omega)] at e
            cases e
      rcases lt et with ⟨x, hx⟩ | ⟨rfl, hx⟩
      · rcases lt eu with ⟨y, hy⟩ | ⟨rfl, hy⟩
        · exact hd i l t u hil x y q hq hq2
        · exact hs' q hq2 (hs t (List.mem_of_getElem? x) q hq).1
      · rcases lt eu with ⟨y, hy⟩ | ⟨rfl, hy⟩
        · exact hs' q hq (hs u (List.mem_of_getElem? y) q hq2).1
        · omega
/-- fixed -/
theorem its_fz {K : PySem.W.Frag} {F H : Hp} {α : Type} {O : Own α} {T : Ty α} {S : Fp} (z : Fz O T) (dj : ∀ q, S q → F q = none) {ss : List Fp} {vs : List V} {as : List α} (h : Its (O.rel K F H) ss vs as) (hs : ∀ s ∈ ss, ∀ q, s q → S q) : Fa2 (T.rel K (frz F H S)) vs as := by
  induction h with
  | nil => exact .nil
  | @cons s v a ss vs as r _ ih =>
    refine .cons ?_ (ih fun t ht => hs t (by simp [ht]))
    have q := z K F H s v a (fun q hq => dj q (hs s (by simp) q hq)) r
    refine T.mono (fun a o e => ?_) q
    by_cases c : s a
    · rw [frz_in c] at e
      rw [frz_in (hs s (by simp) a c)]
      exact e
    · rw [frz_out c] at e
      rw [frz_out (fun z => by rw [dj a z] at e; cases e)]
      exact e
theorem fz_l {α : Type} {O : Own α} {T : Ty α} (z : Fz O T) : Fz (oL O) (tLst T) := fun K F H S v a dj ⟨p, vs, ss, e, sp, hp, it, hs, hd⟩ => ⟨p, vs, e, (frz_in sp).trans hp, its_fz z dj it fun s hm q hq => (hs s hm q hq).1⟩
theorem fz_tu {α : Type} {O : Own α} {T : Ty α} (z : Fz O T) : Fz (oTu O) (tTup T) := fun K F H S v a dj ⟨p, vs, ss, e, sp, hp, it, hs, hd⟩ => ⟨p, vs, e, SqT.of ((frz_in sp).trans hp), its_fz z dj it fun s hm q hq => (hs s hm q hq).1⟩
theorem fz_im {α : Type} (T : Ty α) : Fz (im T) T := fun K F H S v a dj h => T.mono (frz_same dj) h

/-! ### what is read -/
def Own.vw {α : Type} (O : Own α) : Rl α := ⟨fun K F H v a => ∃ S : Fp, (∀ p, S p → H p ≠ none) ∧ O.rel K F H S v a, fun s ⟨S, n, r⟩ => ⟨S, fun p hp => same_ne s.hh (n p hp), O.keep r s.ff fun p hp => same_at s.hh (n p hp)⟩⟩
theorem vw_lst {α : Type} {T : Ty α} : ∀ K F H v (a : List α), Same F H → (oLst T).vw.rel K F H v a → (rLstH T).rel K F H v a := fun K F H v a _ ⟨S, n, p, vs, e, sp, h, r⟩ => ⟨p, vs, e, h, r⟩
theorem vw_im {α : Type} {T : Ty α} : ∀ K F H v (a : α), Same F H → (im T).vw.rel K F H v a → T.rl.rel K F H v a := fun K F H v a _ ⟨S, n, r⟩ => r
theorem WE.vl {e : Expr} {α : Type} {T : Ty α} {m : Out (List α)} (h : WE X E B Γ e (oLst T).vw m) : WE X E B Γ e (rLstH T) m := h.sub vw_lst
theorem WE.vi {e : Expr} {α : Type} {T : Ty α} {m : Out α} (h : WE X E B Γ e (im T).vw m) : WE X E B Γ e T.rl m := h.sub vw_im
/-- the own thing in slot i -/
theorem we_vw (C : XC X N sc k E) (i : Nat) {x : Str} {pos : Pos} {α : Type} {O : Own α} {a : α} (hΓ : Γ[i]? = some (.on α O a) := by rfl) (hN : N[i]? = some x := by rfl) (hv : Vis sc.sc x := by first | exact Or.inl rfl | exact Or.inr (Or.inl rfl) | exact Or.inr (Or.inr rfl))
    (hd : (x == ("__debug__" : Str)) = false := by decide) (hcd : (x == ("__classdict__" : Str)) = false := by decide) : WE X E B Γ (.Name x pos) O.vw (pure a) := fun σ F H ω Q e p => by
  obtain ⟨v, hs, r⟩ := e.slot i _ hΓ
  exact ⟨_, pv_ C hN hv hd hcd, v, join_some hs, p v F H (Stp.refl e.fh) ⟨_, fun q hq => (e.own q i hq).2.1, r⟩⟩
/-- lent by the caller -/
def tBor (B : Bs) {α : Type} (O : Own α) : Ty α := ⟨fun K _ v a => ∃ S : Fp, (∀ p, S p → B.H p ≠ none ∧ ¬ B.W p) ∧ O.rel K B.F B.H S v a, fun _ h => h⟩
theorem bor_vw {K : PySem.W.Frag} {Γ : List Slot} {σ : L2.St} {F H : Hp} {ω : Ow} {α : Type} {O : Own α} {v : V} {a : α} (e : EnvOk K B Γ σ F H ω) (F0 : Hp) (h : (tBor B O).rel K F0 v a) : ∃ S : Fp, (∀ p, S p → H p ≠ none ∧ B.H p ≠ none ∧ ¬ B.W p) ∧ O.rel K F H S v a := by
  obtain ⟨S, hS, r⟩ := h
  have hh : ∀ p, S p → H p = B.H p := fun p hp => by
    cases q : B.H p with
    | none => exact absurd q (hS p hp).1
    | some o => exact e.base.hh p o q (hS p hp).2
  exact ⟨S, fun p hp => ⟨by rw [hh p hp]; exact (hS p hp).1, hS p hp⟩, O.keep r e.base.ff hh⟩
theorem we_bor (C : XC X N sc k E) (i : Nat) {x : Str} {pos : Pos} {α : Type} {O : Own α} {a : α} (hΓ : Γ[i]? = some (iS (tBor B O) a) := by rfl) (hN : N[i]? = some x := by rfl) (hv : Vis sc.sc x := by first | exact Or.inl rfl | exact Or.inr (Or.inl rfl) | exact Or.inr (Or.inr rfl))
    (hd : (x == ("__debug__" : Str)) = false := by decide) (hcd : (x == ("__classdict__" : Str)) = false := by decide) : WE X E B Γ (.Name x pos) O.vw (pure a) := fun σ F H ω Q e p => by
  obtain ⟨v, hs, r⟩ := e.slot i _ hΓ
  obtain ⟨S, hS, r⟩ := bor_vw e F r
  exact ⟨_, pv_ C hN hv hd hcd, v, join_some hs, p v F H (Stp.refl e.fh) ⟨S, fun q hq => (hS q hq).1, r⟩⟩
/-- an item of a box that is read: of a list, of a tuple -/
theorem vw_bx {K : PySem.W.Frag} {F H : Hp} {v : V} {α : Type} {O : Own α} {mk : List V → HO} {a : List α} (h : (oBx mk O).vw.rel K F H v a) : ∃ p vs, v = .ref p ∧ H p = some (mk vs) ∧ vs.length = a.length ∧ ∀ (j : Nat) (b : α), a[j]? = some b → ∃ w, vs[j]? = some w ∧ O.vw.rel K F H w b := by
  obtain ⟨S, n, p, vs, ss, e, sp, hp, it, hs, hd⟩ := h
  refine ⟨p, vs, e, hp, it.len.2, fun j b ej => ?_⟩
  obtain ⟨s, w, es, ew, r⟩ := it.get ej
  exact ⟨w, ew, s, fun q hq => n q (hs s (List.mem_of_getElem? es) q hq).1, r⟩
theorem vw_at {K : PySem.W.Frag} {F H : Hp} {α : Type} {O : Own α} {a : List α} {vs : List V} (hl : vs.length = a.length) (h : ∀ (j : Nat) (b : α), a[j]? = some b → ∃ w, vs[j]? = some w ∧ O.vw.rel K F H w b) {i : Int} {b : α} (e : atI a i = some b) : ∃ w, atI vs i = some w ∧ O.vw.rel K F H w b := by
  unfold atI at e ⊢
  rw [hl]
  cases q : ixN a.length i with
  | none => rw [q] at e; cases e
  | some j =>
    rw [q] at e
    exact h j b e
section
variable {e1 e2 : Expr} {α : Type} {O : Own α} {m : Out (List α)} {mi : Out Int} {pos : Pos}
theorem we_vixL (h1 : WE X E B Γ e1 (oL O).vw m) (h2 : WE X E B Γ e2 tInt.rl mi) (hs : PlainIx e2 := by intro _ _; rfl) : WE X E B Γ (.Subscript e1 e2 pos) O.vw (m >>= fun a => mi >>= fun i => idx a i) :=
  two_ix (R := (oL O).vw) (S := tInt.rl) ix_list (fun F H x y a b Q J s h h2 po => by
    unfold idx at po
    cases q2 : atI a b with
    | none => rw [q2] at po; exact po.elim
    | some z =>
      rw [q2] at po
      obtain ⟨p, vs, e, q, hl, hj⟩ := vw_bx h
      obtain ⟨v, hv, rv⟩ := vw_at hl hj q2
      exact ⟨p, vs, b, v, e, h2, SqL.of q, hv, po v F H (Stp.refl s) rv⟩) h1 h2 hs
theorem we_vixT (h1 : WE X E B Γ e1 (oTu O).vw m) (h2 : WE X E B Γ e2 tInt.rl mi) (hs : PlainIx e2 := by intro _ _; rfl) : WE X E B Γ (.Subscript e1 e2 pos) O.vw (m >>= fun a => mi >>= fun i => idx a i) :=
  two_ix (R := (oTu O).vw) (S := tInt.rl) ix_tup (fun F H x y a b Q J s h h2 po => by
    unfold idx at po
    cases q2 : atI a b with
    | none => rw [q2] at po; exact po.elim
    | some z =>
      rw [q2] at po
      obtain ⟨p, vs, e, q, hl, hj⟩ := vw_bx h
      obtain ⟨v, hv, rv⟩ := vw_at hl hj q2
      exact ⟨p, vs, b, v, e, h2, SqT.of q, hv, po v F H (Stp.refl s) rv⟩) h1 h2 hs
theorem vl_len : ∀ K F H v (a : List α), Same F H → (oL O).vw.rel K F H v a → ∃ q vs, v = .ref q ∧ (SqL K H q vs ∨ SqT K H q vs) ∧ vs.length = a.length := fun K F H v a s h => by
  obtain ⟨p, vs, e, q, hl, _⟩ := vw_bx h
  exact ⟨p, vs, e, .inl (SqL.of q), hl⟩
theorem vt_len : ∀ K F H v (a : List α), Same F H → (oTu O).vw.rel K F H v a → ∃ q vs, v = .ref q ∧ (SqL K H q vs ∨ SqT K H q vs) ∧ vs.length = a.length := fun K F H v a s h => by
  obtain ⟨p, vs, e, q, hl, _⟩ := vw_bx h
  exact ⟨p, vs, e, .inr (SqT.of q), hl⟩
/-- len of what can be told the length of -/
theorem we_lenR (C : XC X N sc k E) (Z : Fre X.mg) {e : Expr} {p : Pos} {R : Rl (List α)} (hR : ∀ K F H v (a : List α), Same F H → R.rel K F H v a → ∃ q vs, v = .ref q ∧ (SqL K H q vs ∨ SqT K H q vs) ∧ vs.length = a.length) (h : WE X E B Γ e R m) (hg : GlN sc "len" := by rfl)
    (he : starEach (e :: []) X.env = (false, eval e X.env) :: starEach [] X.env := by rfl) : WE X E B Γ (.Call (.Name "len" p) [e] [] pos) tInt.rl (m >>= fun a => pure (a.length : Int)) :=
  cb1 (R := R) C call_len_seq Z.len boot_len (fun F H x a Q J s h po => by
    obtain ⟨p, vs, e, q, hl⟩ := hR _ F H x a s h
    exact ⟨p, vs, by rw [e], q, by rw [hl]; exact po _ F H (Stp.refl s) rfl⟩) h hg (he := he)
end
end SL

set_option Elab.async false
set_option linter.all false
set_option maxRecDepth 100000
set_option maxHeartbeats 2000000
/-! SLt: dicts of whatever keys; ways into own things; stores. -/
namespace SL
open PySem PySem.Spec PyProof.Rows L2
variable {X : Cx} {N : List Str} {sc : Scp} {k : Nat} {E : XK} {B : Bs} {Γ : List Slot}

/-! ### tables -/
section
variable {κ α β : Type} [DecidableEq κ]
def aget : List (κ × α) → κ → Option α
  | [], _ => none
  | (j, x) :: r, k => if j = k then some x else aget r k
def afind : List (κ × α) → κ → Option Nat
  | [], _ => none
  | (j, _) :: r, k => if j = k then some 0 else (afind r k).map (· + 1)
def aput : List (κ × α) → κ → α → List (κ × α)
  | [], k, x => [(k, x)]
  | (j, y) :: r, k, x => if j = k then (j, x) :: r else (j, y) :: aput r k x
def agetO (a : List (κ × α)) (k : κ) : Out α := match aget a k with
  | some x => pure x
  | none => .stuck
def aputO (a : List (κ × α)) (k : κ) (x : α) : Out (List (κ × α)) := if a.length < 16777216 then pure (aput a k x) else .stuck
theorem aget_find : ∀ {a : List (κ × α)} {k : κ} {x : α}, aget a k = some x → ∃ j, afind a k = some j ∧ a[j]? = some (k, x)
  | [], _, _, h => by cases h
  | (j, y) :: r, k, x, h => by
    unfold aget at h
    unfold afind
    by_cases c : j = k
    · rw [if_pos c] at h
      cases h
      subst c
      exact ⟨0, by rw [if_pos rfl], rfl⟩
    · rw [if_neg c] at h
      obtain ⟨i, h1, h2⟩ := aget_find h
      exact ⟨i + 1, by rw [if_neg c, h1]; rfl, by simpa using h2⟩
theorem afind_of_none : ∀ {a : List (κ × α)} {k : κ}, aget a k = none → afind a k = none
  | [], _, _ => rfl
  | (i, y) :: r, k, h => by
    unfold aget at h
    unfold afind
    by_cases c : i = k
    · rw [if_pos c] at h; cases h
    · rw [if_neg c] at h ⊢
      rw [afind_of_none h]; rfl
theorem aget_zip {ks : List κ} : ∀ {as : List α} {bs : List β} {k : κ} {j : Nat}, ks.length = as.length → ks.length = bs.length → afind (ks.zip as) k = some j → afind (ks.zip bs) k = some j ∧ ∀ b, bs[j]? = some b → aget (ks.zip bs) k = some b := by
  induction ks with
  | nil => intro as bs k j _ _ h; cases h
  | cons i ks ih =>
    intro as bs k j h1 h2 h
    cases as with
    | nil => simp at h1
    | cons a as =>
      cases bs with
      | nil => simp at h2
      | cons b bs =>
        simp only [List.zip_cons_cons] at h ⊢
        unfold afind at h ⊢
        unfold aget
        by_cases c : i = k
        · rw [if_pos c] at h ⊢
          cases h
          exact ⟨rfl, fun b' e => by rw [if_pos c]; simpa using e⟩
        · rw [if_neg c] at h ⊢
          cases q : afind (ks.zip as) k with
          | none => rw [q] at h; cases h
          | some l =>
            rw [q] at h
            cases h
            obtain ⟨g1, g2⟩ := ih (by simpa using h1) (by simpa using h2) q
            refine ⟨by rw [g1]; rfl, fun b' e => ?_⟩
            rw [if_neg c]
            exact g2 b' (by simpa using e)
theorem afind_none_zip {ks : List κ} : ∀ {as : List α} {bs : List β} {k : κ}, ks.length = as.length → ks.length = bs.length → afind (ks.zip as) k = none → afind (ks.zip bs) k = none ∧ aget (ks.zip bs) k = none := by
  induction ks with
  | nil => intro as bs k _ _ _; exact ⟨rfl, rfl⟩
  | cons i ks ih =>
    intro as bs k h1 h2 h
    cases as with
    | nil => simp at h1
    | cons a as =>
      cases bs with
      | nil => simp at h2
      | cons b bs =>
        simp only [List.zip_cons_cons] at h ⊢
        unfold afind at h ⊢
        unfold aget
        by_cases c : i = k
        · rw [if_pos c] at h; cases h
        · rw [if_neg c] at h ⊢
          cases q : afind (ks.zip as) k with
          | some l => rw [q] at h; cases h
          | none =>
            obtain ⟨g1, g2⟩ := ih (by simpa using h1) (by simpa using h2) q
            exact ⟨by rw [g1]; rfl, by rw [if_neg c]; exact g2⟩
theorem afind_lt : ∀ {a : List (κ × α)} {k : κ} {j : Nat}, afind a k = some j → ∃ x, a[j]? = some (k, x)
  | [], _, _, h => by cases h
  | (i, y) :: r, k, j, h => by
    unfold afind at h
    by_cases c : i = k
    · rw [if_pos c] at h
      cases h
      subst c
      exact ⟨y, rfl⟩
    · rw [if_neg c] at h
      cases q : afind r k with
      | none => rw [q] at h; cases h
      | some l =>
        rw [q] at h
        cases h
        obtain ⟨x, hx⟩ := afind_lt q
        exact ⟨x, by simpa using hx⟩
theorem aput_some : ∀ {a : List (κ × α)} {k : κ} {j : Nat} (x : α), afind a k = some j → aput a k x = a.set j (k, x)
  | [], _, _, _, h => by cases h
  | (i, y) :: r, k, j, x, h => by
    unfold afind at h
    unfold aput
    by_cases c : i = k
    · rw [if_pos c] at h ⊢
      cases h
      rw [c]; rfl
    · rw [if_neg c] at h ⊢
      cases q : afind r k with
      | none => rw [q] at h; cases h
      | some l =>
        rw [q] at h
        cases h
        rw [aput_some x q]; rfl
theorem aput_none : ∀ {a : List (κ × α)} {k : κ} (x : α), afind a k = none → aput a k x = a ++ [(k, x)]
  | [], _, _, _ => rfl
  | (i, y) :: r, k, x, h => by
    unfold afind at h
    unfold aput
    by_cases c : i = k
    · rw [if_pos c] at h; cases h
    · rw [if_neg c] at h ⊢
      cases q : afind r k with
      | some l => rw [q] at h; cases h
      | none => rw [aput_none x q]; rfl
theorem afind_keys : ∀ {a : List (κ × α)} {b : List (κ × β)} {k : κ}, a.map (·.1) = b.map (·.1) → afind a k = afind b k
  | [], [], _, _ => rfl
  | [], _ :: _, _, h => by cases h
  | _ :: _, [], _, h => by cases h
  | (i, y) :: r, (j, z) :: s, k, h => by
    simp only [List.map_cons, List.cons.injEq] at h
    unfold afind
    rw [afind_keys h.2, h.1]
theorem afind_no : ∀ {a : List (κ × α)} {k : κ}, afind a k = none → k ∉ a.map (·.1)
  | [], _, _ => by simp
  | (i, y) :: r, k, h => by
    unfold afind at h
    by_cases c : i = k
    · rw [if_pos c] at h; cases h
    · rw [if_neg c] at h
      cases q : afind r k with
      | some l => rw [q] at h; cases h
      | none =>
        have := afind_no q
        simp only [List.map_cons, List.mem_cons, not_or]
        exact ⟨Ne.symm c, this⟩
theorem aput_keys_some {a : List (κ × α)} {k : κ} {j : Nat} (x : α) (h : afind a k = some j) : (a.set j (k, x)).map (·.1) = a.map (·.1) := by
  obtain ⟨y, hy⟩ := afind_lt h
  obtain ⟨h1, h2⟩ := List.getElem?_eq_some_iff.mp hy
  rw [List.map_set]
  have : k = (a.map (·.1))[j]'(by simpa using h1) := by simp [h2]
  rw [this, List.set_getElem_self]
end
/-- the keys of one kind -/
structure KeyD (κ : Type) [DecidableEq κ] where
  T : Ty κ
  ho : List (κ × V) → HO
  get : ∀ {K : PySem.W.Frag} {F H : Hp} {p : Addr} {v : V} {k : κ} (kvs : List (κ × V)), Same F H → T.rel K F v k → Rd H p (ho kvs) → DGet H p v (aget kvs k)
  put : ∀ {K : PySem.W.Frag} {F H : Hp} {p : Addr} {v w : V} {k : κ} (kvs : List (κ × V)), Same F H → T.rel K F v k → H p = some (ho kvs) → (kvs.map (·.1)).Nodup → kvs.length < sizeLine → DPut H p v w (upd H p (ho (aput kvs k w)))
  isD : ∀ {H : Hp} {p : Addr} (kvs : List (κ × V)), Rd H p (ho kvs) → IsD H p
section
variable {κ κ' : Type} [DecidableEq κ] [DecidableEq κ'] {g : κ → κ'}
theorem valV_emb (hg : ∀ a b, g a = g b → a = b) (k : κ) : ∀ kvs : List (κ × V), valV (kvs.map fun x => (g x.1, x.2)) (g k) = aget kvs k
  | [] => rfl
  | (j, v) :: r => by
    unfold aget
    rw [List.map_cons]
    by_cases c : j = k
    · rw [if_pos c]
      exact valV_pos (by rw [c])
    · rw [if_neg c, valV_neg (fun z => c (hg _ _ z))]
      exact valV_emb hg k r
theorem putK_emb (hg : ∀ a b, g a = g b → a = b) (k : κ) (w : V) (kvs : List (κ × V)) (hn : (kvs.map (·.1)).Nodup) : putK (kvs.map fun x => (g x.1, x.2)) (g k) w = (aput kvs k w).map fun x => (g x.1, x.2) := by
  cases q : aget kvs k with
  | none =>
    have qn : afind kvs k = none := by
      cases z : afind kvs k with
      | none => rfl
      | some j =>
        exfalso
        clear hn
        induction kvs generalizing j with
        | nil => cases z
        | cons p r ih =>
          obtain ⟨i, y⟩ := p
          unfold aget at q
          unfold afind at z
          by_cases c : i = k
          · rw [if_pos c] at q; cases q
          · rw [if_neg c] at q z
            cases z2 : afind r k with
            | none => rw [z2] at z; cases z
            | some l => exact ih q l z2
    rw [putK_new _ (by rw [valV_emb hg]; exact q), aput_none _ qn, List.map_append]
    rfl
  | some x =>
    unfold putK
    rw [if_pos (by rw [valV_any, valV_emb hg, q]; rfl)]
    revert q
    induction kvs with
    | nil => intro q; cases q
    | cons p r ih =>
      intro q
      obtain ⟨i, y⟩ := p
      simp only [List.map_cons, List.nodup_cons] at hn
      unfold aput
      unfold aget at q
      simp only [List.map_cons]
      by_cases c : i = k
      · subst c
        rw [if_pos rfl, if_pos rfl, List.map_cons]
        congr 1
        rw [List.map_map]
        apply List.map_congr_left
        intro z hz
        have : z.1 ≠ i := fun e => hn.1 (e ▸ List.mem_map_of_mem hz)
        simp only [Function.comp]
        rw [if_neg (fun e => this (hg _ _ e))]
      · rw [if_neg c] at q
        rw [if_neg (fun e => c (hg _ _ e)), if_neg c, List.map_cons]
        congr 1
        exact ih hn.2 q
end
theorem rd_same {F H : Hp} {p : Addr} {u : HO} (s : Same F H) (h : Rd F p u) : Rd H p u := by
  rcases h with h | ⟨o, h⟩
  · exact .inl (s _ _ h)
  · exact .inr ⟨o, s _ _ h⟩
def kdI : KeyD Int := ⟨tInt, fun kvs => .dK (kvs.map fun x => (ki x.1, x.2)), fun kvs s h r => by
  rw [show _ = _ from h, ← valV_emb (g := ki) (fun a b e => Sum.inl.inj e)]
  exact .inl ⟨_, ki _, r, rfl, rfl⟩, fun {K F H p v w k} kvs s h r n l => by
  rw [show _ = _ from h]
  have := DPut.k (k := ki k) (v := w) r (by simpa using l)
  rw [putK_emb (g := ki) (fun a b e => Sum.inl.inj e) _ _ _ n] at this
  exact this, fun kvs r => .inl ⟨_, r⟩⟩
def kdS : KeyD Str := ⟨tStr, fun kvs => .dK (kvs.map fun x => (Sum.inr x.1, x.2)), fun kvs s h r => by
  rw [show _ = _ from h, ← valV_emb (g := (Sum.inr : Str → Key)) (fun a b e => Sum.inr.inj e)]
  exact .inl ⟨_, Sum.inr _, r, rfl, rfl⟩, fun {K F H p v w k} kvs s h r n l => by
  rw [show _ = _ from h]
  have := DPut.k (k := (Sum.inr k : Key)) (v := w) r (by simpa using l)
  rw [putK_emb (g := (Sum.inr : Str → Key)) (fun a b e => Sum.inr.inj e) _ _ _ n] at this
  exact this, fun kvs r => .inl ⟨_, r⟩⟩
/-- tracked tuples of two, of three ints -/
def tK2 : Ty (Int × Int) := ⟨fun _ F v a => ∃ p, v = .ref p ∧ F p = some (.tup [.int a.1, .int a.2]), fun s ⟨p, e, h⟩ => ⟨p, e, s _ _ h⟩⟩
def tK3 : Ty (Int × Int × Int) := ⟨fun _ F v a => ∃ p, v = .ref p ∧ F p = some (.tup [.int a.1, .int a.2.1, .int a.2.2]), fun s ⟨p, e, h⟩ => ⟨p, e, s _ _ h⟩⟩
theorem k2_t2 : ∀ K F H v a, Same F H → tK2.rl.rel K F H v a → (tT2 tInt tInt).rl.rel K F H v a := fun K F H v a s ⟨p, e, h⟩ => ⟨p, _, _, e, SqT.of h, rfl, rfl⟩
theorem k3_t3 : ∀ K F H v a, Same F H → tK3.rl.rel K F H v a → (tT3 tInt tInt tInt).rl.rel K F H v a := fun K F H v a s ⟨p, e, h⟩ => ⟨p, _, _, _, e, SqT.of h, rfl, rfl, rfl⟩
def kdP : KeyD (Int × Int) := ⟨tK2, fun kvs => .dT (kvs.map fun x => ([ki x.1.1, ki x.1.2], x.2)), fun {K F H p v k} kvs s h r => by
  obtain ⟨q, e, hq⟩ := h
  rw [← valV_emb (g := fun x : Int × Int => [ki x.1, ki x.2]) (fun a b e => by simp only [List.cons.injEq, Sum.inl.injEq] at e; exact Prod.ext e.1 e.2.1)]
  exact .inr ⟨_, [ki k.1, ki k.2], q, r, e, s _ _ hq, rfl⟩, fun {K F H p v w k} kvs s h r n l => by
  obtain ⟨q, e, hq⟩ := h
  subst e
  have := DPut.t (k := [ki k.1, ki k.2]) (v := w) r (s _ _ hq) (by simpa using l)
  rw [putK_emb (g := fun x : Int × Int => [ki x.1, ki x.2]) (fun a b e => by simp only [List.cons.injEq, Sum.inl.injEq] at e; exact Prod.ext e.1 e.2.1) _ _ _ n] at this
  exact this, fun kvs r => .inr ⟨_, r⟩⟩
def kdT : KeyD (Int × Int × Int) := ⟨tK3, fun kvs => .dT (kvs.map fun x => ([ki x.1.1, ki x.1.2.1, ki x.1.2.2], x.2)), fun {K F H p v k} kvs s h r => by
  obtain ⟨q, e, hq⟩ := h
  rw [← valV_emb (g := fun x : Int × Int × Int => [ki x.1, ki x.2.1, ki x.2.2]) (fun a b e => by simp only [List.cons.injEq, Sum.inl.injEq] at e; exact Prod.ext e.1 (Prod.ext e.2.1 e.2.2.1))]
  exact .inr ⟨_, [ki k.1, ki k.2.1, ki k.2.2], q, r, e, s _ _ hq, rfl⟩, fun {K F H p v w k} kvs s h r n l => by
  obtain ⟨q, e, hq⟩ := h
  subst e
  have := DPut.t (k := [ki k.1, ki k.2.1, ki k.2.2]) (v := w) r (s _ _ hq) (by simpa using l)
  rw [putK_emb (g := fun x : Int × Int × Int => [ki x.1, ki x.2.1, ki x.2.2]) (fun a b e => by simp only [List.cons.injEq, Sum.inl.injEq] at e; exact Prod.ext e.1 (Prod.ext e.2.1 e.2.2.1)) _ _ _ n] at this
  exact this, fun kvs r => .inr ⟨_, r⟩⟩
/-- written tuples as keys -/
theorem we_k2 {e1 e2 : Expr} {m1 m2 : Out Int} {j : Nat} {pos : Pos} (h1 : WE X E B Γ e1 tInt.rl m1) (h2 : WE X E B Γ e2 tInt.rl m2) (s1 : starEach (e1 :: e2 :: []) X.env = (false, eval e1 X.env) :: starEach (e2 :: []) X.env := by rfl) (s2 : starEach (e2 :: []) X.env = (false, eval e2 X.env) :: starEach [] X.env := by rfl) :
    WE X E B Γ (.Tuple [e1, e2] j pos) tK2.rl (m1 >>= fun a => m2 >>= fun b => pure (a, b)) :=
  we_tupd (wa_cons h1 (fun a => wa_cons h2 (fun b => wa_nil fun K F H s v2 r2 v1 r1 => ⟨(a, b), rfl, by simp, fun p F' s e => ⟨p, rfl, by rw [e, show v1 = .int a from r1, show v2 = .int b from r2]⟩⟩) s2) s1)
theorem we_k3 {e1 e2 e3 : Expr} {m1 m2 m3 : Out Int} {j : Nat} {pos : Pos} (h1 : WE X E B Γ e1 tInt.rl m1) (h2 : WE X E B Γ e2 tInt.rl m2) (h3 : WE X E B Γ e3 tInt.rl m3) (s1 : starEach (e1 :: e2 :: e3 :: []) X.env = (false, eval e1 X.env) :: starEach (e2 :: e3 :: []) X.env := by rfl)
    (s2 : starEach (e2 :: e3 :: []) X.env = (false, eval e2 X.env) :: starEach (e3 :: []) X.env := by rfl) (s3 : starEach (e3 :: []) X.env = (false, eval e3 X.env) :: starEach [] X.env := by rfl) :
    WE X E B Γ (.Tuple [e1, e2, e3] j pos) tK3.rl (m1 >>= fun a => m2 >>= fun b => m3 >>= fun c => pure (a, b, c)) :=
  we_tupd (wa_cons h1 (fun a => wa_cons h2 (fun b => wa_cons h3 (fun c => wa_nil fun K F H s v3 r3 v2 r2 v1 r1 => ⟨(a, b, c), rfl, by simp, fun p F' s e => ⟨p, rfl, by rw [e, show v1 = .int a from r1, show v2 = .int b from r2, show v3 = .int c from r3]⟩⟩) s3) s2) s1)
/-- a dict whose values are own things -/
def oDi {κ α : Type} [DecidableEq κ] (KD : KeyD κ) (O : Own α) : Own (List (κ × α)) := ⟨fun K F H S v a => (a.map Prod.fst).Nodup ∧ (oBx (fun vs => KD.ho ((a.map Prod.fst).zip vs)) O).rel K F H S v (a.map Prod.snd),
  fun {K F H F' H' S v a} h sf k => ⟨h.1, (oBx _ O).keep h.2 sf k⟩⟩
section
variable {κ α : Type} [DecidableEq κ] {KD : KeyD κ} {O : Own α}
theorem zip_self {β : Type} : ∀ a : List (κ × β), (a.map Prod.fst).zip (a.map Prod.snd) = a
  | [] => rfl
  | (i, x) :: r => by simp only [List.map_cons, List.zip_cons_cons, zip_self r]
theorem zip_set {β γ : Type} : ∀ (xs : List β) (ys : List γ) (j : Nat) (x : β) (y : γ), (xs.zip ys).set j (x, y) = (xs.set j x).zip (ys.set j y)
  | [], _, _, _, _ => by simp
  | _ :: _, [], _, _, _ => by simp
  | a :: xs, b :: ys, 0, x, y => by simp
  | a :: xs, b :: ys, j + 1, x, y => by simp [zip_set xs ys j x y]
theorem di_len {a : List (κ × α)} {vs : List V} (h : vs.length = a.length) : ((a.map Prod.fst).zip vs).length = a.length := by simp [h]
/-- d[k] = a new own thing -/
theorem di_put {K : PySem.W.Frag} {F H : Hp} {S : Fp} {v : V} {a : List (κ × α)} (h : (oDi KD O).rel K F H S v a) : ∃ p kvs, v = .ref p ∧ S p ∧ H p = some (KD.ho kvs) ∧ kvs.length = a.length ∧ (kvs.map Prod.fst).Nodup ∧ (∀ k, aget a k = none → aget kvs k = none) ∧
    (∀ (k : κ) (j : Nat) (b : α), afind a k = some j → a[j]? = some (k, b) → ∃ w, aget kvs k = some w ∧ SubAt K F H S v (oDi KD O) O w b (fun x => a.set j (k, x))) ∧
    ∀ (k : κ) (F' H' : Hp) (s' : Fp) (w' : V) (b' : α), Same F F' → H' p = some (KD.ho (aput kvs k w')) → (∀ q, S q → q ≠ p → H' q = H q) → (∀ q, s' q → ¬ S q) → O.rel K F' H' s' w' b' → (oDi KD O).rel K F' H' (fun q => S q ∨ s' q) v (aput a k b') := by
  obtain ⟨n, r⟩ := h
  obtain ⟨p, vs, rfl, sp, hp, hl0, u0, u1, u2⟩ := bx_wr r
  have hl : vs.length = a.length := by simpa using hl0
  refine ⟨p, (a.map Prod.fst).zip vs, rfl, sp, hp, di_len hl, by rw [List.map_fst_zip (by simp [hl])]; exact n, fun k h => (afind_none_zip (as := a.map Prod.snd) (bs := vs) (by simp) (by simp [hl]) (by rw [zip_self]; exact afind_of_none h)).2, fun k j b e eb => ?_, fun k F' H' s' w' b' sf hp' kk hs' r' => ?_⟩
  · obtain ⟨w, ew, s, hs, r1, up⟩ := u0 j b (show (a.map Prod.snd)[j]? = some b by rw [List.getElem?_map, eb]; rfl)
    refine ⟨w, (aget_zip (ks := a.map Prod.fst) (as := a.map Prod.snd) (bs := vs) (by simp) (by simp [hl]) (by rw [zip_self]; exact e)).2 w ew, s, hs, r1, fun F' H' s' b' sf kk hs' r' => ?_⟩
    have hk : (a.set j (k, b')).map Prod.fst = a.map Prod.fst := aput_keys_some (x := b') e
    have q := up F' H' s' b' sf kk hs' r'
    have h2 : (a.set j (k, b')).map Prod.snd = (a.map Prod.snd).set j b' := by rw [List.map_set]
    show ((a.set j (k, b')).map Prod.fst).Nodup ∧ (oBx (fun vs => KD.ho (((a.set j (k, b')).map Prod.fst).zip vs)) O).rel K F' H' _ _ ((a.set j (k, b')).map Prod.snd)
    rw [hk, h2]
    exact ⟨n, q⟩
  show ((aput a k b').map Prod.fst).Nodup ∧ (oBx (fun vs => KD.ho (((aput a k b').map Prod.fst).zip vs)) O).rel K F' H' _ _ ((aput a k b').map Prod.snd)
  cases q : afind a k with
  | some j =>
    obtain ⟨x, hx⟩ := afind_lt q
    have hj : j < a.length := (List.getElem?_eq_some_iff.mp hx).1
    rw [aput_some _ q]
    have q2 := (aget_zip (ks := a.map Prod.fst) (as := a.map Prod.snd) (bs := vs) (by simp) (by simp [hl]) (by rw [zip_self]; exact q)).1
    rw [aput_some _ q2] at hp'
    have hk : (a.set j (k, b')).map Prod.fst = a.map Prod.fst := aput_keys_some (x := b') q
    have h2 : (a.set j (k, b')).map Prod.snd = (a.map Prod.snd).set j b' := by rw [List.map_set]
    rw [hk, h2]
    have ez : ((a.map Prod.fst).zip vs).set j (k, w') = (a.map Prod.fst).zip (vs.set j w') := by
      have hkj : k = (a.map Prod.fst)[j]'(by simpa using hj) := by
        have := (List.getElem?_eq_some_iff.mp hx).2
        simp [this]
      have e1 : a.map Prod.fst = (a.map Prod.fst).set j k := by
        conv => rhs; rw [hkj]
        rw [List.set_getElem_self]
      conv => rhs; rw [e1]
      exact zip_set _ _ _ _ _
    rw [ez] at hp'
    exact ⟨n, u1 (fun vs => KD.ho ((a.map Prod.fst).zip vs)) F' H' s' j w' b' (by simpa using hj) sf hp' kk hs' r'⟩
  | none =>
    rw [aput_none _ q]
    have q2 := (afind_none_zip (ks := a.map Prod.fst) (as := a.map Prod.snd) (bs := vs) (by simp) (by simp [hl]) (by rw [zip_self]; exact q)).1
    rw [aput_none _ q2] at hp'
    have ez : (a.map Prod.fst).zip vs ++ [(k, w')] = ((a ++ [(k, b')]).map Prod.fst).zip (vs ++ [w']) := by
      rw [List.map_append, List.zip_append (by simp [hl])]
      rfl
    rw [ez] at hp'
    refine ⟨?_, ?_⟩
    · rw [List.map_append]
      refine List.nodup_append.mpr ⟨n, by simp, fun x hx y hy => ?_⟩
      have : y = k := by simpa using hy
      subst this
      exact fun z => afind_no q (z ▸ hx)
    · have := u2 (fun vs => KD.ho (((a ++ [(k, b')]).map Prod.fst).zip vs)) F' H' s' w' b' sf hp' kk hs' r'
      rw [List.map_append (f := Prod.snd)]
      exact this
end
end SL

set_option Elab.async false
set_option linter.all false
set_option maxRecDepth 100000
set_option maxHeartbeats 2000000
/-! SLu: dicts read; ways into own things; stores there. -/
namespace SL
open PySem PySem.Spec PyProof.Rows L2
variable {X : Cx} {N : List Str} {sc : Scp} {k : Nat} {E : XK} {B : Bs} {Γ : List Slot}

/-! ### dicts read -/
section
variable {κ α : Type} [DecidableEq κ] {KD : KeyD κ} {O : Own α}
theorem vw_di {K : PySem.W.Frag} {F H : Hp} {v : V} {a : List (κ × α)} (h : (oDi KD O).vw.rel K F H v a) : ∃ p kvs, v = .ref p ∧ H p = some (KD.ho kvs) ∧ kvs.length = a.length ∧ (∀ k, aget a k = none → aget kvs k = none) ∧ ∀ (k : κ) (b : α), aget a k = some b → ∃ w, aget kvs k = some w ∧ O.vw.rel K F H w b := by
  obtain ⟨S, n, r⟩ := h
  obtain ⟨p, kvs, e, sp, hp, hl, _, hn, hs, _⟩ := di_put r
  refine ⟨p, kvs, e, hp, hl, hn, fun k b hb => ?_⟩
  obtain ⟨j, h1, h2⟩ := aget_find hb
  obtain ⟨w, hw, s, hs, r1, _⟩ := hs k j b h1 h2
  exact ⟨w, hw, s, fun q hq => n q (hs q hq), r1⟩
section
variable {e1 e2 : Expr} {m : Out (List (κ × α))} {mk : Out κ} {pos : Pos}
/-- d[k] -/
theorem we_vdget (C : XC X N sc k E) (h1 : WE X E B Γ e1 (oDi KD O).vw m) (h2 : WE X E B Γ e2 KD.T.rl mk) (hs : NoSl e2 := by intro _ _; rfl) : WE X E B Γ (.Subscript e1 e2 pos) O.vw (m >>= fun a => mk >>= fun i => agetO a i) := fun σ F H ω Q en q => by
  refine ⟨_, pe_dget (hu1 C) pe_s pe_s hs, ?_⟩
  refine h1 σ F H ω _ en (q.bind.imp fun a q v F1 H1 s1 r1 => ?_)
  refine h2 σ F1 H1 ω _ (en.stp s1) (q.bind.imp fun i q y F2 H2 s2 ry => ?_)
  obtain ⟨p, kvs, e, hp, _, _, hg⟩ := vw_di ((oDi KD O).vw.mono s2 r1)
  unfold agetO at q
  cases hq : aget a i with
  | none => rw [hq] at q; exact q.elim
  | some b =>
    rw [hq] at q
    obtain ⟨w, hw, rw'⟩ := hg i b hq
    exact ⟨p, w, e, by rw [← hw]; exact KD.get kvs s2.fh ry (.inl hp), q w F2 H2 (s1.trans s2) rw'⟩
/-- d.get(k, x) of a dict of fixed things -/
theorem we_vgetd (C : XC X N sc k E) {T : Ty α} {e3 : Expr} {mx : Out α} {apos cpos : Pos} (h1 : WE X E B Γ e1 (oDi KD (im T)).vw m) (h2 : WE X E B Γ e2 KD.T.rl mk) (h3 : WE X E B Γ e3 T.rl mx) (hM : M2 X e1 "get" apos e2 e3 cpos := by exact ⟨rfl, rfl, rfl, rfl⟩) :
    WE X E B Γ (.Call (.Attribute e1 "get" apos) [e2, e3] [] cpos) T.rl (m >>= fun a => mk >>= fun i => mx >>= fun x => pure ((aget a i).getD x)) := fun σ F H ω Q en q => by
  refine ⟨_, pe_dget2 (hu1 C) pe_s pe_s pe_s hM, ?_⟩
  refine h1 σ F H ω _ en (q.bind.imp fun a q v F1 H1 s1 r1 => ?_)
  obtain ⟨p0, kvs0, e0, hp0, _⟩ := vw_di r1
  refine ⟨p0, e0, KD.isD kvs0 (.inl hp0), ?_⟩
  refine h2 σ F1 H1 ω _ (en.stp s1) (q.bind.imp fun i q y F2 H2 s2 ry => ?_)
  refine h3 σ F2 H2 ω _ ((en.stp s1).stp s2) (q.bind.imp fun x q z F3 H3 s3 rz => ?_)
  obtain ⟨p, kvs, e, hp, _, hn, hg⟩ := vw_di ((oDi KD (im T)).vw.mono (s2.trans s3) r1)
  rw [e0] at e
  cases e
  refine ⟨aget kvs i, KD.get kvs s3.fh (KD.T.mono s3.ff ry) (.inl hp), ?_⟩
  cases hq : aget a i with
  | none =>
    rw [hq] at q
    rw [hn i hq]
    exact q z F3 H3 ((s1.trans s2).trans s3) rz
  | some b =>
    rw [hq] at q
    obtain ⟨w, hw, _, _, rw'⟩ := hg i b hq
    rw [hw]
    exact q w F3 H3 ((s1.trans s2).trans s3) rw'
/-- k in d -/
theorem we_vin (C : XC X N sc k E) (h1 : WE X E B Γ e2 KD.T.rl mk) (h2 : WE X E B Γ e1 (oDi KD O).vw m) (hm : behindInMarks .In e1 = false := by with_unfolding_all rfl) : WE X E B Γ (.Compare e2 [.In] [e1] pos) tBool.rl (mk >>= fun i => m >>= fun a => pure (aget a i).isSome) := fun σ F H ω Q en q => by
  refine ⟨_, pe_cmp (pc_din (hu1 C) pe_s pe_s) hm, ?_⟩
  refine h1 σ F H ω _ en (q.bind.imp fun i q y F1 H1 s1 ry => ?_)
  refine h2 σ F1 H1 ω _ (en.stp s1) (q.bind.imp fun a q v F2 H2 s2 r2 => ?_)
  obtain ⟨p, kvs, e, hp, _, hn, hg⟩ := vw_di r2
  refine ⟨p, aget kvs i, e, KD.get kvs s2.fh (KD.T.mono s2.ff ry) (.inl hp), ?_⟩
  have : (aget kvs i).isSome = (aget a i).isSome := by
    cases hq : aget a i with
    | none => rw [hn i hq] <;> rfl
    | some b =>
      obtain ⟨w, hw, _⟩ := hg i b hq
      rw [hw]; rfl
  rw [this]
  exact q _ F2 H2 (s1.trans s2) rfl
theorem wt_vin (C : XC X N sc k E) (h1 : WE X E B Γ e2 KD.T.rl mk) (h2 : WE X E B Γ e1 (oDi KD O).vw m) (hm : behindInMarks .In e1 = false := by with_unfolding_all rfl) : WT X E B Γ (.Compare e2 [.In] [e1] pos) (mk >>= fun i => m >>= fun a => pure (aget a i).isSome) := fun σ F H ω Q en q => by
  refine ⟨_, pt_cmp (pc_din (hu1 C) pe_s pe_s) hm, ?_⟩
  refine h1 σ F H ω _ en (q.bind.imp fun i q y F1 H1 s1 ry => ?_)
  refine h2 σ F1 H1 ω _ (en.stp s1) (q.bind.imp fun a q v F2 H2 s2 r2 => ?_)
  obtain ⟨p, kvs, e, hp, _, hn, hg⟩ := vw_di r2
  refine ⟨p, aget kvs i, e, KD.get kvs s2.fh (KD.T.mono s2.ff ry) (.inl hp), ?_⟩
  have : (aget kvs i).isSome = (aget a i).isSome := by
    cases hq : aget a i with
    | none => rw [hn i hq] <;> rfl
    | some b =>
      obtain ⟨w, hw, _⟩ := hg i b hq
      rw [hw]; rfl
  rw [this]
  exact ⟨_, rfl, q F2 H2 (s1.trans s2)⟩
theorem wt_vnin (C : XC X N sc k E) (h1 : WE X E B Γ e2 KD.T.rl mk) (h2 : WE X E B Γ e1 (oDi KD O).vw m) (hm : behindInMarks .NotIn e1 = false := by with_unfolding_all rfl) : WT X E B Γ (.Compare e2 [.NotIn] [e1] pos) (mk >>= fun i => m >>= fun a => pure (!(aget a i).isSome)) := fun σ F H ω Q en q => by
  refine ⟨_, pt_cmp (pc_dnotin (hu1 C) pe_s pe_s) hm, ?_⟩
  refine h1 σ F H ω _ en (q.bind.imp fun i q y F1 H1 s1 ry => ?_)
  refine h2 σ F1 H1 ω _ (en.stp s1) (q.bind.imp fun a q v F2 H2 s2 r2 => ?_)
  obtain ⟨p, kvs, e, hp, _, hn, hg⟩ := vw_di r2
  refine ⟨p, aget kvs i, e, KD.get kvs s2.fh (KD.T.mono s2.ff ry) (.inl hp), ?_⟩
  have : (aget kvs i).isSome = (aget a i).isSome := by
    cases hq : aget a i with
    | none => rw [hn i hq] <;> rfl
    | some b =>
      obtain ⟨w, hw, _⟩ := hg i b hq
      rw [hw]; rfl
  rw [this]
  exact ⟨_, rfl, q F2 H2 (s1.trans s2)⟩
end
end

/-! ### ways into own things -/
/-- known to be at u -/
def oIs (u : V) {α : Type} (O : Own α) : Own α := ⟨fun K F H S v a => v = u ∧ O.rel K F H S v a, fun ⟨e, r⟩ s k => ⟨e, O.keep r s k⟩⟩
def WL (X : Cx) (E : XK) (B : Bs) (Γ : List Slot) (i : Nat) (e : Expr) {α β : Type} (O : Own α) (O' : Own β) (m : Out (β × (β → α))) : Prop :=
  ∀ σ F H ω Q, EnvOk X.K B Γ σ F H ω → Post m (fun r => ∀ v w F' H', Stp F H F' H' → σ[i]? = some (some v) → SubAt X.K F' H' (fun p => ω p = some i) v O O' w r.1 r.2 → Q w H') (RB X.K B E) → sE X e σ H Q
theorem WL.cast {i : Nat} {e : Expr} {α β : Type} {O : Own α} {O' : Own β} {m m' : Out (β × (β → α))} (h : WL X E B Γ i e O O' m) (q : m = m') : WL X E B Γ i e O O' m' := q ▸ h
theorem wl_var (C : XC X N sc k E) (i : Nat) {x : Str} {pos : Pos} {α : Type} {O : Own α} {a : α} (hΓ : Γ[i]? = some (.on α O a) := by rfl) (hN : N[i]? = some x := by rfl) (hv : Vis sc.sc x := by first | exact Or.inl rfl | exact Or.inr (Or.inl rfl) | exact Or.inr (Or.inr rfl))
    (hd : (x == ("__debug__" : Str)) = false := by decide) (hcd : (x == ("__classdict__" : Str)) = false := by decide) : WL X E B Γ i (.Name x pos) O O (pure (a, fun b => b)) := fun σ F H ω Q e p => by
  obtain ⟨v, hs, r⟩ := e.slot i _ hΓ
  exact ⟨_, pv_ C hN hv hd hcd, v, join_some hs, p v v F H (Stp.refl e.fh) (join_some hs) (SubAt.refl r)⟩
theorem wl_is (C : XC X N sc k E) (i : Nat) {x : Str} {pos : Pos} {α : Type} {O : Own α} {u : V} {a : α} (hΓ : Γ[i]? = some (.on α (oIs u O) a) := by rfl) (hN : N[i]? = some x := by rfl) (hv : Vis sc.sc x := by first | exact Or.inl rfl | exact Or.inr (Or.inl rfl) | exact Or.inr (Or.inr rfl))
    (hd : (x == ("__debug__" : Str)) = false := by decide) (hcd : (x == ("__classdict__" : Str)) = false := by decide) : WL X E B Γ i (.Name x pos) (oIs u O) O (pure (a, fun b => b)) := fun σ F H ω Q e p => by
  obtain ⟨v, hs, hu, r⟩ := e.slot i _ hΓ
  refine ⟨_, pv_ C hN hv hd hcd, v, join_some hs, p v v F H (Stp.refl e.fh) (join_some hs) ?_⟩
  obtain ⟨s, h1, h2, h3⟩ := SubAt.refl r
  exact ⟨s, h1, h2, fun F' H' s' b' sf kk hs' r' => ⟨hu, h3 F' H' s' b' sf kk hs' r'⟩⟩
/-- an index, a key further -/
def subO {α β : Type} (r : List β × (List β → α)) (i : Int) : Out (β × (β → α)) := match ixN r.1.length i with
  | none => .stuck
  | some j => match r.1[j]? with
    | none => .stuck
    | some b => pure (b, fun x => r.2 (r.1.set j x))
def subD {κ α β : Type} [DecidableEq κ] (r : List (κ × β) × (List (κ × β) → α)) (k : κ) : Out (β × (β → α)) := match afind r.1 k with
  | none => .stuck
  | some j => match r.1[j]? with
    | none => .stuck
    | some b => pure (b.2, fun x => r.2 (r.1.set j (k, x)))
section
variable {α β κ : Type} [DecidableEq κ] {KD : KeyD κ} {O : Own α} {O' : Own β} {i : Nat} {e1 e2 : Expr} {m : Out (List β × (List β → α))} {md : Out (List (κ × β) × (List (κ × β) → α))} {mi : Out Int} {mk : Out κ} {pos : Pos}
theorem sub_stp {K : PySem.W.Frag} {Γ : List Slot} {σ : L2.St} {F H F' H' F2 H2 : Hp} {ω : Ow} {v w : V} {α β : Type} {O : Own α} {O' : Own β} {b : β} {put : β → α} (en : EnvOk K B Γ σ F H ω) (s : Stp F' H' F2 H2) (s0 : Stp F H F' H') (h : SubAt K F' H' (fun p => ω p = some i) v O O' w b put) :
    SubAt K F2 H2 (fun p => ω p = some i) v O O' w b put := h.keep s.ff fun q hq => same_at s.hh (same_ne s0.hh (en.own q i hq).2.1)
theorem wl_ixL (h1 : WL X E B Γ i e1 O (oL O') m) (h2 : WE X E B Γ e2 tInt.rl mi) (hs : PlainIx e2 := by intro _ _; rfl) : WL X E B Γ i (.Subscript e1 e2 pos) O O' (m >>= fun r => mi >>= fun j => subO r j) := fun σ F H ω Q en p => by
  refine ⟨_, pe_ix ix_list pe_s pe_s hs, ?_⟩
  refine h1 σ F H ω _ en (p.bind.imp fun r q v w F1 H1 s1 hv sb => ?_)
  refine h2 σ F1 H1 ω _ (en.stp s1) (q.bind.imp fun j q y F2 H2 s2 ry => ?_)
  have sb2 := sub_stp en s2 s1 sb
  unfold subO at q
  cases hj : ixN r.1.length j with
  | none => rw [hj] at q; exact q.elim
  | some n =>
    simp only [hj] at q
    cases hb : r.1[n]? with
    | none => rw [hb] at q; exact q.elim
    | some b =>
      rw [hb] at q
      obtain ⟨s, hs, r1, up⟩ := sb2
      obtain ⟨p, vs, u, e, sp, hp, hl, hu, hsb⟩ := bx_sub r1 hb
      refine ⟨p, vs, j, u, e, ry, SqL.of hp, by unfold atI; rw [hl, hj]; exact hu, ?_⟩
      refine q v u F2 H2 (s1.trans s2) hv ?_
      exact SubAt.trans (put := r.2) (put2 := fun x => r.1.set n x) hs up hsb
theorem wl_ixT (h1 : WL X E B Γ i e1 O (oTu O') m) (h2 : WE X E B Γ e2 tInt.rl mi) (hs : PlainIx e2 := by intro _ _; rfl) : WL X E B Γ i (.Subscript e1 e2 pos) O O' (m >>= fun r => mi >>= fun j => subO r j) := fun σ F H ω Q en p => by
  refine ⟨_, pe_ix ix_tup pe_s pe_s hs, ?_⟩
  refine h1 σ F H ω _ en (p.bind.imp fun r q v w F1 H1 s1 hv sb => ?_)
  refine h2 σ F1 H1 ω _ (en.stp s1) (q.bind.imp fun j q y F2 H2 s2 ry => ?_)
  have sb2 := sub_stp en s2 s1 sb
  unfold subO at q
  cases hj : ixN r.1.length j with
  | none => rw [hj] at q; exact q.elim
  | some n =>
    simp only [hj] at q
    cases hb : r.1[n]? with
    | none => rw [hb] at q; exact q.elim
    | some b =>
      rw [hb] at q
      obtain ⟨s, hs, r1, up⟩ := sb2
      obtain ⟨p, vs, u, e, sp, hp, hl, hu, hsb⟩ := bx_sub r1 hb
      refine ⟨p, vs, j, u, e, ry, SqT.of hp, by unfold atI; rw [hl, hj]; exact hu, ?_⟩
      refine q v u F2 H2 (s1.trans s2) hv ?_
      exact SubAt.trans (put := r.2) (put2 := fun x => r.1.set n x) hs up hsb
theorem wl_dget (C : XC X N sc k E) (h1 : WL X E B Γ i e1 O (oDi KD O') md) (h2 : WE X E B Γ e2 KD.T.rl mk) (hs : NoSl e2 := by intro _ _; rfl) : WL X E B Γ i (.Subscript e1 e2 pos) O O' (md >>= fun r => mk >>= fun j => subD r j) := fun σ F H ω Q en p => by
  refine ⟨_, pe_dget (hu1 C) pe_s pe_s hs, ?_⟩
  refine h1 σ F H ω _ en (p.bind.imp fun r q v w F1 H1 s1 hv sb => ?_)
  refine h2 σ F1 H1 ω _ (en.stp s1) (q.bind.imp fun kk q y F2 H2 s2 ry => ?_)
  have sb2 := sub_stp en s2 s1 sb
  unfold subD at q
  cases hj : afind r.1 kk with
  | none => rw [hj] at q; exact q.elim
  | some n =>
    simp only [hj] at q
    obtain ⟨x, hx⟩ := afind_lt hj
    rw [hx] at q
    obtain ⟨s, hs, r1, up⟩ := sb2
    obtain ⟨p, kvs, e, sp, hp, hl, hnd, hn, hsub, _⟩ := di_put r1
    obtain ⟨u, hu, hsb⟩ := hsub kk n x hj hx
    refine ⟨p, u, e, by rw [← hu]; exact KD.get kvs s2.fh ry (.inl hp), ?_⟩
    refine q v u F2 H2 (s1.trans s2) hv ?_
    exact SubAt.trans (put := r.2) (put2 := fun x => r.1.set n (kk, x)) hs up hsb
end

/-! ### stores there -/
theorem env_mut2 {K : PySem.W.Frag} {Γ : List Slot} {σ : L2.St} {F H H' : Hp} {ω : Ow} {i : Nat} {v : V} (s : Slot) (S' : Addr → Prop) (e : EnvOk K B Γ σ F H ω) (hv : σ[i]? = some (some v))
    (h1 : ∀ p, H p ≠ none → ω p ≠ some i → H' p = H p) (h2 : ∀ p, H p ≠ none → H' p ≠ none) (hS : ∀ p, S' p → F p = none ∧ H' p ≠ none ∧ (ω p = some i ∨ (ω p = none ∧ B.H p = none))) (r : s.ok K F H' S' (some v)) :
    ∃ ω', (∀ p, ω' p = some i ↔ S' p) ∧ EnvOk K B (Γ.set i s) σ F H' ω' := by
  classical
  have hn : ∀ p, ω p = some i → F p = none := fun p hp => (e.own p i hp).1
  have hω : ∀ p, (if S' p then some i else if ω p = some i then none else ω p) = some i ↔ S' p := fun p => by
    by_cases c : S' p
    · simp [c]
    · by_cases c2 : ω p = some i <;> simp [c, c2]
  have hj : ∀ p j, i ≠ j → ((if S' p then some i else if ω p = some i then none else ω p) = some j ↔ ω p = some j) := fun p j hij => by
    by_cases c : S' p
    · simp only [if_pos c]
      constructor
      · exact fun z => absurd (Option.some.inj z) hij
      · intro z
        rcases (hS p c).2.2 with q | q
        · rw [q] at z
          exact absurd (Option.some.inj z) hij
        · rw [q.1] at z
          cases z
    · simp only [if_neg c]
      by_cases c2 : ω p = some i
      · simp only [if_pos c2, c2]
        exact ⟨(fun z => nomatch z), fun z => absurd (Option.some.inj z) hij⟩
      · simp only [if_neg c2]
  refine ⟨fun p => if S' p then some i else if ω p = some i then none else ω p, hω, ⟨e.base.ff, fun a u h => ?_, fun a u h n => ?_, fun a h => h2 a (e.base.there a h), e.base.old⟩, by rw [List.length_set, e.len], fun p j h => ?_, fun j t h => ?_⟩
  · have hh := e.base.fh a u h
    rw [h1 a (by rw [hh]; exact fun z => nomatch z) (fun z => by rw [hn a z] at h; cases h)]
    exact hh
  · have hh := e.base.hh a u h n
    rw [h1 a (by rw [hh]; exact fun z => nomatch z) (fun z => by
      rcases (e.own a i z).2.2 with q | q
      · rw [q] at h; cases h
      · exact n q)]
    exact hh
  · by_cases hij : i = j
    · subst hij
      obtain ⟨x, y, z⟩ := hS p ((hω p).mp h)
      refine ⟨x, y, ?_⟩
      rcases z with z | z
      · exact (e.own p i z).2.2
      · exact .inl z.2
    · have h' := (hj p j hij).mp h
      obtain ⟨x, y, z⟩ := e.own p j h'
      exact ⟨x, h2 p y, z⟩
  · by_cases hij : i = j
    · subst hij
      have hi : i < Γ.length := by
        have := (List.getElem?_eq_some_iff.mp h).1
        rwa [List.length_set] at this
      rw [List.getElem?_set_self hi] at h
      cases h
      rw [hv]
      exact slot_iff r hω
    · rw [List.getElem?_set_ne hij] at h
      refine slot_iff (Slot.keep (e.slot j t h) (Same.refl F) fun p hp => h1 p (e.own p j hp).2.1 fun z => ?_) fun p => hj p j hij
      rw [z] at hp
      exact hij (Option.some.inj hp)
/-- an own list there is written -/
theorem env_subL {K : PySem.W.Frag} {Γ : List Slot} {σ : L2.St} {F H : Hp} {ω : Ow} {i : Nat} {v w : V} {α γ : Type} {O : Own α} {T : Ty γ} {b : List γ} {put : List γ → α} (e : EnvOk K B Γ σ F H ω) (hv : σ[i]? = some (some v)) (h : SubAt K F H (fun p => ω p = some i) v O (oLst T) w b put) :
    ∃ l vs, w = .ref l ∧ H l = some (.lst vs) ∧ Fa2 (T.rel K F) vs b ∧ ∀ vs' b', Fa2 (T.rel K F) vs' b' → ∃ ω', EnvOk K B (Γ.set i (.on α O (put b'))) σ F (upd H l (.lst vs')) ω' := by
  obtain ⟨s, hs, ⟨l, vs, e1, sl, hl, r⟩, up⟩ := h
  refine ⟨l, vs, e1, hl, r, fun vs' b' r' => ?_⟩
  have q := up F (upd H l (.lst vs')) s b' (Same.refl F) (fun q _ n => upd_ne fun z => n (z ▸ sl)) (fun q h => .inl h) ⟨l, vs', e1, sl, upd_same, r'⟩
  obtain ⟨ω', _, en⟩ := env_mut2 (.on α O (put b')) _ e hv (H' := upd H l (.lst vs')) (fun p _ hp => upd_ne fun z => hp (hs p (z ▸ sl))) (fun p hp => by
    by_cases c : p = l
    · rw [c, upd_same]; exact fun z => nomatch z
    · rw [upd_ne c]; exact hp) (fun p hp => by
    have hi : ω p = some i := hp.elim (fun z => z.1) (hs p)
    obtain ⟨x, y, _⟩ := e.own p i hi
    refine ⟨x, ?_, .inl hi⟩
    by_cases c : p = l
    · rw [c, upd_same]; exact fun z => nomatch z
    · rw [upd_ne c]; exact y) ⟨v, rfl, q⟩
  exact ⟨ω', en⟩
section
variable {γ β : Type} {D : γ → SOut} {b : List Stmt} {bs : List (List Stmt)} {p2 p3 pos : Pos} {e eP ei : Expr} {α : Type} {O : Own α} {δ : Type} {T : Ty δ} {me : Out δ} {mi : Out Int} {mP : Out (List δ × (List δ → α))} {f : List δ × (List δ → α) → List δ → Out γ}
/-- P[i] = e, a list -/
theorem ws_lset (i : Nat) (h : WE X E B Γ e T.rl me) (hP : WL X E B Γ i eP O (oLst T) mP) (hi : WE X E B Γ ei tInt.rl mi) (hr : ∀ r l, WS X E B (Γ.set i (.on α O (r.2 l))) (b :: bs) (f r l) D)
    (ha : ∀ v, assign (.Subscript eP ei p2) X.env v = (do
      let ov ← holding [v] (eval eP X.env)
      let iv ← holding [v, ov] (eval ei X.env)
      standAt p2
      holding [v, ov, iv] (setItem ov iv v)
      release [v, ov, iv] []) := by intro _; rfl)
    (hs : swapsWithSole [.Subscript eP ei p2] e pos.line X.env = pure false := by rfl) (hw : swappedStores [.Subscript eP ei p2] e X.env = pure none := by rfl) (h1 : (assignEach [.Subscript eP ei p2] X.env).map (·.2) = [assign (.Subscript eP ei p2) X.env] := by rfl) :
    WS X E B Γ ((.Assign [.Subscript eP ei p2] e pos :: b) :: bs) (me >>= fun a => mP >>= fun r => mi >>= fun j => setO r.1 j a >>= fun l => f r l) D := fun σ F H ω En en q => by
  refine sK_cons ⟨_, ps_asg pe_s (pg_sub pe_s pe_s set_list ha) hs hw h1, ?_⟩
  refine h σ F H ω _ en (q.bind.imp fun a q v F1 H1 s1 ra => ?_)
  have en1 := en.stp s1
  refine hP σ F1 H1 ω _ en1 (q.bind.imp fun r q v0 w F2 H2 s2 hv sb => ?_)
  have en2 := en1.stp s2
  refine hi σ F2 H2 ω _ en2 (q.bind.imp fun j q v2 F3 H3 s3 rj => ?_)
  have en3 := en2.stp s3
  obtain ⟨l, vs, e1, hl, rr, up⟩ := env_subL en3 hv (sub_stp en1 s3 s2 sb)
  subst e1
  unfold setO ixO at q
  cases hj : ixN r.1.length j with
  | none => rw [hj] at q; exact q.elim
  | some n =>
    rw [hj] at q
    refine ⟨l, vs, j, n, rfl, rj, hl, by rw [rr.len]; exact hj, ?_⟩
    obtain ⟨ω', en'⟩ := up _ _ (rr.set (T.mono (s2.ff.trans s3.ff) ra) n)
    exact hr r _ σ F3 _ ω' En en' (Post.imp q fun b z => EndOk.up z ((s1.ff.trans s2.ff).trans s3.ff))
/-- P.append(e) -/
theorem ws_lapp (i : Nat) (hP : WL X E B Γ i eP O (oLst T) mP) (h : WE X E B Γ e T.rl me) (hr : ∀ r l, WS X E B (Γ.set i (.on α O (r.2 l))) (b :: bs) (f r l) D)
    (hbase : attributeBase eP "append" X.env (eval eP X.env) = eval eP X.env := by rfl)
    (hfew : ((backTo p3 (starEach (e :: []) X.env)).all (fun x => !x.1) && (backToKw p3 (keywordEach [] X.env)).all (fun x => x.1.isSome) && decide ((e :: []).length + ([] : List Keyword).length + (if ([] : List Keyword).isEmpty then 0 else 1) < 30)) = true := by rfl)
    (hline : (p2.endLine == p3.line) = true := by rfl) (hs : starEach (e :: []) X.env = (false, eval e X.env) :: starEach [] X.env := by rfl) (hsw : swapsWith (.Call (.Attribute eP "append" p2) [e] [] p3) none pos.line X.env = pure false := by rfl) :
    WS X E B Γ ((.Expr (.Call (.Attribute eP "append" p2) [e] [] p3) pos :: b) :: bs) (mP >>= fun r => me >>= fun a => appO r.1 a >>= fun l => f r l) D := fun σ F H ω En en q => by
  refine sK_cons ⟨_, ps_expr (pe_bm PySem.F.plainAttrs_list PySem.F.slot_list_append PySem.F.type_list_append mt_append pe_s (pa_cons pe_s pa_nil hs) hbase hfew hline hs) hsw, ?_⟩
  refine hP σ F H ω _ en (q.bind.imp fun r q v0 w F1 H1 s1 hv sb => ?_)
  have en1 := en.stp s1
  obtain ⟨l0, vs0, e0, hl0, _⟩ := env_subL en1 hv sb
  subst e0
  refine ⟨.inl ⟨rfl, _, SqL.of hl0⟩, h σ F1 H1 ω _ en1 (q.bind.imp fun a q v F2 H2 s2 ra => ?_)⟩
  have en2 := en1.stp s2
  obtain ⟨l, vs, e1, hl, rr, up⟩ := env_subL en2 hv (sub_stp en s2 s1 sb)
  cases e1
  unfold appO at q
  by_cases c : r.1.length < 16777216
  · rw [if_pos c] at q
    refine ⟨l0, vs, v, rfl, rfl, hl, by rw [rr.len, sizeLine_eq]; exact c, ?_⟩
    obtain ⟨ω', en'⟩ := up _ _ (rr.app (.cons ra .nil))
    exact hr r _ σ F2 _ ω' En en' (Post.imp q fun b z => EndOk.up z (s1.ff.trans s2.ff))
  · rw [if_neg c] at q
    exact q.elim
end
/-- a fixed thing as a new one -/
theorem WE.wo {e : Expr} {α : Type} {T : Ty α} {m : Out α} (h : WE X E B Γ e T.rl m) : WO X E B Γ e (im T) m := fun σ F H ω Q en p =>
  h σ F H ω Q en (p.imp fun a q v F' H' s r => q v F' H' (fun _ => False) s (fun p hp => hp.elim) r)
section
variable {γ : Type} {D : γ → SOut} {b : List Stmt} {bs : List (List Stmt)} {p2 p3 pos : Pos} {e eP ek : Expr} {α δ κ : Type} [DecidableEq κ] {KD : KeyD κ} {O : Own α} {O' : Own δ} {me : Out δ} {mk : Out κ} {mP : Out (List (κ × δ) × (List (κ × δ) → α))} {f : List (κ × δ) × (List (κ × δ) → α) → List (κ × δ) → Out γ}
/-- P[k] = e, a dict -/
theorem ws_lput (C : XC X N sc k E) (i : Nat) (h : WO X E B Γ e O' me) (hP : WL X E B Γ i eP O (oDi KD O') mP) (hk : WE X E B Γ ek KD.T.rl mk) (hr : ∀ r l, WS X E B (Γ.set i (.on α O (r.2 l))) (b :: bs) (f r l) D)
    (hs : swapsWith e (some (.Subscript eP ek p2)) pos.line X.env = pure false := by rfl) :
    WS X E B Γ ((.Assign [.Subscript eP ek p2] e pos :: b) :: bs) (me >>= fun a => mP >>= fun r => mk >>= fun j => aputO r.1 j a >>= fun l => f r l) D := fun σ F H ω En en q => by
  refine sK_cons ⟨_, ps_dput (hu1 C) pe_s pe_s pe_s hs, ?_⟩
  refine h σ F H ω _ en (q.bind.imp fun a q v F1 H1 S1 s1 d1 ra => ?_)
  have en1 := en.stp s1
  have nk := new_ok en s1 d1
  refine hP σ F1 H1 ω _ en1 (q.bind.imp fun r q v0 w F2 H2 s2 hv sb => ?_)
  have en2 := en1.stp s2
  refine hk σ F2 H2 ω _ en2 (q.bind.imp fun j q v2 F3 H3 s3 rj => ?_)
  have en3 := en2.stp s3
  have s23 := s2.trans s3
  obtain ⟨s, hs, r1, up⟩ := sub_stp en1 s3 s2 sb
  obtain ⟨l, kvs, e1, sl, hl, hlen, hnd, _, _, put⟩ := di_put r1
  subst e1
  unfold aputO at q
  by_cases c : r.1.length < 16777216
  · rw [if_pos c] at q
    refine ⟨l, _, rfl, KD.put kvs s3.fh rj hl hnd (by rw [hlen, sizeLine_eq]; exact c), ?_⟩
    have nl : ∀ q, S1 q → q ≠ l := fun q hq z => by
      have : ω l = some i := hs l sl
      rw [← z, (nk q hq).2.2.1] at this
      cases this
    have hS1 : ∀ q, S1 q → ¬ s q := fun q hq z => by
      have : ω q = some i := hs q z
      rw [(nk q hq).2.2.1] at this
      cases this
    have keepS1 : ∀ q, S1 q → upd H3 l (KD.ho (aput kvs j v)) q = H1 q := fun q hq => by
      rw [upd_ne (nl q hq)]
      exact same_at s23.hh (nk q hq).2.1
    have q1 := put j F3 (upd H3 l (KD.ho (aput kvs j v))) S1 v a (Same.refl F3) upd_same (fun q _ n => upd_ne n) hS1 (O'.keep ra s23.ff keepS1)
    have q2 := up F3 (upd H3 l (KD.ho (aput kvs j v))) _ _ (Same.refl F3) (fun q _ n => upd_ne fun z => n (z ▸ sl)) (fun q hq => hq.elim .inl fun z => .inr fun (y : ω q = some i) => by
      rw [(nk q z).2.2.1] at y
      cases y) q1
    obtain ⟨ω', _, en'⟩ := env_mut2 (.on α O (r.2 (aput r.1 j a))) _ en3 hv (H' := upd H3 l (KD.ho (aput kvs j v))) (fun p _ hp => upd_ne fun z => hp (hs p (z ▸ sl))) (fun p hp => by
      by_cases c : p = l
      · rw [c, upd_same]; exact fun z => nomatch z
      · rw [upd_ne c]; exact hp) (fun p hp => by
      have hcase : ω p = some i ∨ S1 p := by
        rcases hp with z | z | z
        · exact .inl z.1
        · exact .inl (hs p z)
        · exact .inr z
      rcases hcase with hi | hi
      · obtain ⟨x, y, _⟩ := en3.own p i hi
        refine ⟨x, ?_, .inl hi⟩
        by_cases c : p = l
        · rw [c, upd_same]; exact fun z => nomatch z
        · rw [upd_ne c]; exact y
      · obtain ⟨x1, x2, x3, x4⟩ := nk p hi
        exact ⟨s23.old p x1 x2, by rw [keepS1 p hi]; exact x2, .inr ⟨x3, x4⟩⟩) ⟨v0, rfl, q2⟩
    exact hr r _ σ F3 _ ω' En en' (Post.imp q fun b z => EndOk.up z ((s1.ff.trans s2.ff).trans s3.ff))
  · rw [if_neg c] at q
    exact q.elim
end
/-- {} -/
theorem wo_dicI {α : Type} {O : Own α} {pos : Pos} : WO X E B Γ (.Dict [] [] pos) (oDi kdI O) (pure ([] : List (Int × α))) := fun σ F H ω Q en q => ⟨_, pe_dnewK, fun p hp =>
  q (.ref p) F _ (fun a => a = p) (Stp.newH en.fh hp) (fun a e => by
    subst e
    exact ⟨en.fh.free hp, (by rw [upd_same]; exact fun z => nomatch z), hp⟩) ⟨by simp, p, [], [], rfl, rfl, upd_same, .nil, by simp, by simp⟩⟩
theorem wo_dicS {α : Type} {O : Own α} {pos : Pos} : WO X E B Γ (.Dict [] [] pos) (oDi kdS O) (pure ([] : List (Str × α))) := fun σ F H ω Q en q => ⟨_, pe_dnewK, fun p hp =>
  q (.ref p) F _ (fun a => a = p) (Stp.newH en.fh hp) (fun a e => by
    subst e
    exact ⟨en.fh.free hp, (by rw [upd_same]; exact fun z => nomatch z), hp⟩) ⟨by simp, p, [], [], rfl, rfl, upd_same, .nil, by simp, by simp⟩⟩
theorem wo_dicP {α : Type} {O : Own α} {pos : Pos} : WO X E B Γ (.Dict [] [] pos) (oDi kdP O) (pure ([] : List ((Int × Int) × α))) := fun σ F H ω Q en q => ⟨_, pe_dnewT, fun p hp =>
  q (.ref p) F _ (fun a => a = p) (Stp.newH en.fh hp) (fun a e => by
    subst e
    exact ⟨en.fh.free hp, (by rw [upd_same]; exact fun z => nomatch z), hp⟩) ⟨by simp, p, [], [], rfl, rfl, upd_same, .nil, by simp, by simp⟩⟩
theorem wo_dicT {α : Type} {O : Own α} {pos : Pos} : WO X E B Γ (.Dict [] [] pos) (oDi kdT O) (pure ([] : List ((Int × Int × Int) × α))) := fun σ F H ω Q en q => ⟨_, pe_dnewT, fun p hp =>
  q (.ref p) F _ (fun a => a = p) (Stp.newH en.fh hp) (fun a e => by
    subst e
    exact ⟨en.fh.free hp, (by rw [upd_same]; exact fun z => nomatch z), hp⟩) ⟨by simp, p, [], [], rfl, rfl, upd_same, .nil, by simp, by simp⟩⟩
/-- a pair of two new things -/
theorem wo_two {mk : List V → HO} {α : Type} {O : Own α} {K : PySem.W.Frag} {F H F1 H1 F2 H2 : Hp} {S1 S2 : Fp} {v1 v2 : V} {a1 a2 : α} {p : Addr} (s0 : Same F H) (s1 : Stp F H F1 H1) (d1 : ∀ p, S1 p → F1 p = none ∧ H1 p ≠ none ∧ H p = none) (r1 : O.rel K F1 H1 S1 v1 a1) (s2 : Stp F1 H1 F2 H2) (d2 : ∀ p, S2 p → F2 p = none ∧ H2 p ≠ none ∧ H1 p = none) (r2 : O.rel K F2 H2 S2 v2 a2) (hp : H2 p = none) :
    Stp F H F2 (upd H2 p (mk [v1, v2])) ∧ (∀ q, (q = p ∨ S1 q ∨ S2 q) → F2 q = none ∧ upd H2 p (mk [v1, v2]) q ≠ none ∧ H q = none) ∧ (oBx mk O).rel K F2 (upd H2 p (mk [v1, v2])) (fun q => q = p ∨ S1 q ∨ S2 q) (.ref p) [a1, a2] := by
  have n1 : ∀ q, S1 q → H2 q ≠ none := fun q hq => same_ne s2.hh (d1 q hq).2.1
  have p1 : ∀ q, S1 q → q ≠ p := fun q hq z => n1 q hq (z ▸ hp)
  have p2 : ∀ q, S2 q → q ≠ p := fun q hq z => (d2 q hq).2.1 (z ▸ hp)
  have k1 : ∀ q, S1 q → upd H2 p (mk [v1, v2]) q = H1 q := fun q hq => by rw [upd_ne (p1 q hq)]; exact same_at s2.hh (d1 q hq).2.1
  have k2 : ∀ q, S2 q → upd H2 p (mk [v1, v2]) q = H2 q := fun q hq => upd_ne (p2 q hq)
  refine ⟨(s1.trans s2).trans (Stp.newH s2.fh hp), fun q hq => ?_, p, [v1, v2], [S1, S2], rfl, .inl rfl, upd_same, .cons (O.keep r1 s2.ff k1) (.cons (O.keep r2 (Same.refl _) k2) .nil), fun s hs q hq => ?_, fun i j s t hij es et q hs ht => ?_⟩
  · rcases hq with rfl | hq | hq
    · exact ⟨s2.fh.free hp, (by rw [upd_same]; exact fun z => nomatch z), stp_none (s1.trans s2) hp⟩
    · exact ⟨s2.old q (d1 q hq).1 (d1 q hq).2.1, by rw [k1 q hq]; exact (d1 q hq).2.1, (d1 q hq).2.2⟩
    · exact ⟨(d2 q hq).1, by rw [k2 q hq]; exact (d2 q hq).2.1, stp_none s1 (d2 q hq).2.2⟩
  · rcases List.mem_cons.mp hs with rfl | hs
    · exact ⟨.inr (.inl hq), p1 q hq⟩
    · rw [List.mem_singleton.mp hs] at hq
      exact ⟨.inr (.inr hq), p2 q hq⟩
  · have dj : ∀ q, S1 q → ¬ S2 q := fun q h1 h2 => (d1 q h1).2.1 (d2 q h2).2.2
    match i, j with
    | 0, 0 => exact hij rfl
    | 0, 1 =>
      simp at es et
      subst es et
      exact dj q hs ht
    | 1, 0 =>
      simp at es et
      subst es et
      exact dj q ht hs
    | 1, 1 => exact hij rfl
    | i + 2, _ => simp at es
    | _, j + 2 => simp at et
section
variable {e1 e2 : Expr} {α : Type} {O : Own α} {m1 m2 : Out α} {j : Nat} {pos : Pos}
theorem wo_tu2 (h1 : WO X E B Γ e1 O m1) (h2 : WO X E B Γ e2 O m2) (s1 : starEach (e1 :: e2 :: []) X.env = (false, eval e1 X.env) :: starEach (e2 :: []) X.env := by rfl) (s2 : starEach (e2 :: []) X.env = (false, eval e2 X.env) :: starEach [] X.env := by rfl) :
    WO X E B Γ (.Tuple [e1, e2] j pos) (oTu O) (m1 >>= fun a => m2 >>= fun b => pure [a, b]) := fun σ F H ω Q en q => by
  refine ⟨_, pe_tup (pa_cons pe_s (pa_cons pe_s pa_nil s2) s1), ?_⟩
  refine h1 σ F H ω _ en (q.bind.imp fun a q v1 F1 H1 S1 st1 d1 r1 => ?_)
  refine h2 σ F1 H1 ω _ (en.stp st1) (q.bind.imp fun b q v2 F2 H2 S2 st2 d2 r2 => ⟨le_line (by simp), fun p hp => ?_⟩)
  obtain ⟨g1, g2, g3⟩ := wo_two (mk := HO.tup) en.fh st1 d1 r1 st2 d2 r2 hp
  exact q (.ref p) F2 _ _ g1 g2 g3
theorem wo_ls2 (h1 : WO X E B Γ e1 O m1) (h2 : WO X E B Γ e2 O m2) (s1 : starEach (e1 :: e2 :: []) X.env = (false, eval e1 X.env) :: starEach (e2 :: []) X.env := by rfl) (s2 : starEach (e2 :: []) X.env = (false, eval e2 X.env) :: starEach [] X.env := by rfl) :
    WO X E B Γ (.List [e1, e2] pos) (oL O) (m1 >>= fun a => m2 >>= fun b => pure [a, b]) := fun σ F H ω Q en q => by
  refine ⟨_, pe_lst (pa_cons pe_s (pa_cons pe_s pa_nil s2) s1), ?_⟩
  refine h1 σ F H ω _ en (q.bind.imp fun a q v1 F1 H1 S1 st1 d1 r1 => ?_)
  refine h2 σ F1 H1 ω _ (en.stp st1) (q.bind.imp fun b q v2 F2 H2 S2 st2 d2 r2 => ⟨le_line (by simp), fun p hp => ?_⟩)
  obtain ⟨g1, g2, g3⟩ := wo_two (mk := HO.lst) en.fh st1 d1 r1 st2 d2 r2 hp
  exact q (.ref p) F2 _ _ g1 g2 g3
end
end SL

set_option Elab.async false
set_option linter.all false
set_option maxRecDepth 100000
set_option maxHeartbeats 2000000
/-! SLv: parts of own things under a name of their own; defs that are lent things, that change things. -/
namespace SL
open PySem PySem.Spec PyProof.Rows L2
variable {X : Cx} {N : List Str} {sc : Scp} {k : Nat} {E : XK} {B : Bs} {Γ : List Slot}

/-! ### a part under a name of its own -/
/-- what is an O again as soon as the thing at w is an O' -/
def oWd {α β : Type} (O : Own α) (O' : Own β) (w : V) : Own (β → α) := ⟨fun K F H S v put => ∀ (F' H' : Hp) (s' : Fp) (b' : β), Same F F' → (∀ q, S q → H' q = H q) → (∀ q, s' q → ¬ S q) → O'.rel K F' H' s' w b' → O.rel K F' H' (fun q => S q ∨ s' q) v (put b'),
  fun h sf k F' H' s' b' sf' k' hs r => h F' H' s' b' (sf.trans sf') (fun q hq => (k' q hq).trans (k q hq)) hs r⟩
theorem env_focus {K : PySem.W.Frag} {Γ : List Slot} {σ : L2.St} {F H : Hp} {ω : Ow} {i j : Nat} {α β : Type} {O : Own α} {O' : Own β} {v w : V} {b : β} {put : β → α} (e : EnvOk K B Γ σ F H ω) (hv : σ[i]? = some (some v)) (hij : i ≠ j) (h : SubAt K F H (fun p => ω p = some i) v O O' w b put) :
    ∃ ω', EnvOk K B ((Γ.set i (.on _ (oWd O O' w) put)).set j (.on _ (oIs w O') b)) (σ.set j (some w)) F H ω' := by
  classical
  obtain ⟨s, hs, r, up⟩ := h
  have hω : ∀ p l, (if s p then some j else if ω p = some j then none else ω p) = some l ↔ (l = j ∧ s p) ∨ (l ≠ j ∧ ω p = some l ∧ ¬ s p) := fun p l => by
    by_cases c : s p
    · simp only [if_pos c]
      constructor
      · intro z; exact .inl ⟨(Option.some.inj z).symm, c⟩
      · rintro (⟨z, _⟩ | ⟨_, _, z⟩)
        · rw [z]
        · exact absurd c z
    · simp only [if_neg c]
      by_cases c2 : ω p = some j
      · simp only [if_pos c2]
        constructor
        · exact fun z => nomatch z
        · rintro (⟨_, z⟩ | ⟨z, y, _⟩)
          · exact absurd z c
          · rw [c2] at y; exact absurd (Option.some.inj y).symm z
      · simp only [if_neg c2]
        constructor
        · intro z; exact .inr ⟨fun y => c2 (y ▸ z), z, c⟩
        · rintro (⟨_, z⟩ | ⟨z, y, _⟩)
          · exact absurd z c
          · exact y
  refine ⟨fun p => if s p then some j else if ω p = some j then none else ω p, e.base, by simp [e.len], fun p l hl => ?_, fun l t hl => ?_⟩
  · rcases (hω p l).mp hl with ⟨_, z⟩ | ⟨_, z, _⟩
    · exact e.own p i (hs p z)
    · exact e.own p l z
  · by_cases c : j = l
    · subst c
      have hjl : j < Γ.length := by
        have := (List.getElem?_eq_some_iff.mp hl).1
        simpa using this
      rw [List.getElem?_set_self (by simpa using hjl)] at hl
      cases hl
      rw [List.getElem?_set_self (by rw [e.len]; exact hjl)]
      have es : (fun p => (if s p then some j else if ω p = some j then none else ω p) = some j) = s := funext fun p => propext (by
        rw [hω p j]
        constructor
        · rintro (⟨_, z⟩ | ⟨z, _⟩)
          · exact z
          · exact absurd rfl z
        · exact fun z => .inl ⟨rfl, z⟩)
      rw [es]
      exact ⟨w, rfl, rfl, r⟩
    · rw [List.getElem?_set_ne c] at hl
      rw [List.getElem?_set_ne c]
      by_cases c2 : i = l
      · subst c2
        have hil : i < Γ.length := by
          have := (List.getElem?_eq_some_iff.mp hl).1
          simpa using this
        rw [List.getElem?_set_self hil] at hl
        cases hl
        have es : (fun p => (if s p then some j else if ω p = some j then none else ω p) = some i) = fun p => ω p = some i ∧ ¬ s p := funext fun p => propext (by
          rw [hω p i]
          constructor
          · rintro (⟨z, _⟩ | ⟨_, z⟩)
            · exact absurd z hij
            · exact z
          · exact fun z => .inr ⟨hij, z⟩)
        rw [es]
        refine ⟨v, by rw [hv]; rfl, fun F' H' s' b' sf kk hs' r' => ?_⟩
        refine up F' H' s' b' sf (fun q h1 h2 => kk q ⟨h1, h2⟩) (fun q hq => ?_) r'
        by_cases c3 : s q
        · exact .inl c3
        · exact .inr fun z => hs' q hq ⟨z, c3⟩
      · rw [List.getElem?_set_ne c2] at hl
        refine slot_iff (e.slot l t hl) fun p => ?_
        rw [hω p l]
        constructor
        · rintro (⟨z, _⟩ | ⟨_, z, _⟩)
          · exact absurd z.symm c
          · exact z
        · intro z
          refine .inr ⟨fun y => c y.symm, z, fun y => ?_⟩
          have : ω p = some i := hs p y
          rw [this] at z
          exact c2 (Option.some.inj z)
theorem env_unfocus {K : PySem.W.Frag} {Γ : List Slot} {σ : L2.St} {F H : Hp} {ω : Ow} {i j : Nat} {α β : Type} {O : Own α} {O' : Own β} {w : V} {b : β} {put : β → α} (e : EnvOk K B Γ σ F H ω) (hij : i ≠ j) (hi : Γ[i]? = some (.on _ (oWd O O' w) put)) (hj : Γ[j]? = some (.on _ (oIs w O') b)) :
    ∃ ω', EnvOk K B ((Γ.set i (.on _ O (put b))).set j .any) σ F H ω' := by
  obtain ⟨v, hv, h⟩ := e.slot i _ hi
  obtain ⟨w', hw, rfl, r⟩ := e.slot j _ hj
  have hω : ∀ p l, (if ω p = some j then some i else ω p) = some l ↔ (l = i ∧ (ω p = some i ∨ ω p = some j)) ∨ (l ≠ i ∧ l ≠ j ∧ ω p = some l) := fun p l => by
    by_cases c : ω p = some j
    · simp only [if_pos c]
      constructor
      · intro z; exact .inl ⟨(Option.some.inj z).symm, .inr c⟩
      · rintro (⟨z, _⟩ | ⟨_, z, y⟩)
        · rw [z]
        · rw [c] at y; exact absurd (Option.some.inj y).symm z
    · simp only [if_neg c]
      constructor
      · intro z
        by_cases c2 : l = i
        · subst c2; exact .inl ⟨rfl, .inl z⟩
        · exact .inr ⟨c2, fun y => c (y ▸ z), z⟩
      · rintro (⟨z, y | y⟩ | ⟨_, _, z⟩)
        · rw [z]; exact y
        · exact absurd y c
        · exact z
  refine ⟨fun p => if ω p = some j then some i else ω p, e.base, by simp [e.len], fun p l hl => ?_, fun l t hl => ?_⟩
  · rcases (hω p l).mp hl with ⟨_, z | z⟩ | ⟨_, _, z⟩
    · exact e.own p i z
    · exact e.own p j z
    · exact e.own p l z
  · by_cases c : j = l
    · subst c
      have hjl : j < Γ.length := by
        have := (List.getElem?_eq_some_iff.mp hl).1
        simpa using this
      rw [List.getElem?_set_self (by simpa using hjl)] at hl
      cases hl
      trivial
    · rw [List.getElem?_set_ne c] at hl
      by_cases c2 : i = l
      · subst c2
        have hil : i < Γ.length := by
          have := (List.getElem?_eq_some_iff.mp hl).1
          simpa using this
        rw [List.getElem?_set_self hil] at hl
        cases hl
        have es : (fun p => (if ω p = some j then some i else ω p) = some i) = fun p => ω p = some i ∨ ω p = some j := funext fun p => propext (by
          rw [hω p i]
          constructor
          · rintro (⟨_, z⟩ | ⟨z, _⟩)
            · exact z
            · exact absurd rfl z
          · exact fun z => .inl ⟨rfl, z⟩)
        rw [es]
        exact ⟨v, hv, h F H _ b (Same.refl F) (fun _ _ => rfl) (fun q hq hq2 => by
          have h1 : ω q = some j := hq
          have h2 : ω q = some i := hq2
          rw [h1] at h2
          exact hij (Option.some.inj h2).symm) r⟩
      · rw [List.getElem?_set_ne c2] at hl
        refine slot_iff (e.slot l t hl) fun p => ?_
        rw [hω p l]
        constructor
        · rintro (⟨z, _⟩ | ⟨_, _, z⟩)
          · exact absurd z.symm c2
          · exact z
        · exact fun z => .inr ⟨fun y => c2 y.symm, fun y => c y.symm, z⟩
section
variable {γ : Type} {D : γ → SOut} {b : List Stmt} {bs : List (List Stmt)} {x : Str} {p pos : Pos} {e : Expr} {α β : Type} {O : Own α} {O' : Own β} {me : Out (β × (β → α))} {f : β × (β → α) → Out γ} {m : Out γ}
/-- y = P, a part of what is in slot i -/
theorem ws_focus (C : XC X N sc k E) (i j : Nat) (h : WL X E B Γ i e O O' me) (hr : ∀ r w, WS X E B ((Γ.set i (.on _ (oWd O O' w) r.2)).set j (.on _ (oIs w O') r.1)) (b :: bs) (f r) D) (hij : i ≠ j := by decide) (hN : N[j]? = some x := by rfl) (hl : L2.Loc sc.raw x := by first | exact Or.inl rfl | exact Or.inr rfl)
    (hs : swapsWith e (some (.Name x p)) pos.line X.env = pure false := by rfl) : WS X E B Γ ((.Assign [.Name x p] e pos :: b) :: bs) (me >>= f) D := fun σ F H ω En en q => by
  refine sK_cons ⟨_, ps_set (by rw [C.nm]; exact C.nd) (by rw [C.nm]; exact hN) (C.loc _ hl).1 pe_s hs (C.loc _ hl).2, ?_⟩
  refine h σ F H ω _ en (q.bind.imp fun r q v w F1 H1 s1 hv sb => ?_)
  obtain ⟨ω', en'⟩ := env_focus (en.stp s1) hv hij sb
  exact hr r w _ F1 H1 _ En en' (q.imp fun b z => EndOk.up z s1.ff)
theorem ws_unfocus (i j : Nat) {w : V} {a : β} {put : β → α} (hi : Γ[i]? = some (.on _ (oWd O O' w) put)) (hj : Γ[j]? = some (.on _ (oIs w O') a)) (h : WS X E B ((Γ.set i (.on _ O (put a))).set j .any) bs m D) (hij : i ≠ j := by decide) : WS X E B Γ bs m D := fun σ F H ω En en q => by
  obtain ⟨ω', en'⟩ := env_unfocus en hij hi hj
  exact h σ F H ω' En en' q
end

/-! ### parameters that are lent, that are changed -/
structure ParG (ι ο : Type) where
  n : Nat
  rel : PySem.W.Frag → Hp → Hp → Fp → (Nat → Fp) → List V → ι → Prop
  out : PySem.W.Frag → Hp → Hp → (Nat → Fp) → List V → ο → Prop
  slots : Bs → List V → ι → List Slot
  os : List V → ο → List Slot
  len : ∀ {K F H W S vs i}, rel K F H W S vs i → vs.length = n
  slen : ∀ B vs i, (slots B vs i).length = n
  oslen : ∀ vs o, (os vs o).length = n
  ok : ∀ {K F H W S vs i}, rel K F H W S vs i → ∀ (j : Nat) (s : Slot), (slots ⟨F, H, W⟩ vs i)[j]? = some s → s.ok K F H (S j) vs[j]?
  oko : ∀ {K F H S vs o} (σ : Nat → Option V), vs.length = n → (∀ (j : Nat) (s : Slot), (os vs o)[j]? = some s → s.ok K F H (S j) (σ j)) → out K F H S vs o
def gN : ParG Unit Unit := ⟨0, fun _ _ _ _ _ vs _ => vs = [], fun _ _ _ _ vs _ => vs = [], fun _ _ _ => [], fun _ _ => [], fun h => by rw [h]; rfl, fun _ _ _ => rfl, fun _ _ => rfl, fun _ j s h => by simp at h, fun {K F H S vs o} _ h _ => List.length_eq_zero_iff.mp h⟩
theorem tail_get {vs : List V} {v : V} {ws : List V} (e : vs = v :: ws) (j : Nat) : vs[j + 1]? = ws[j]? := by rw [e]; rfl
def gI {α ι ο : Type} (T : Ty α) (P : ParG ι ο) : ParG (α × ι) ο where
  n := P.n + 1
  rel := fun K F H W S vs i => ∃ v ws, vs = v :: ws ∧ T.rel K F v i.1 ∧ P.rel K F H W (fun j => S (j + 1)) ws i.2
  out := fun K F H S vs o => ∃ v ws, vs = v :: ws ∧ P.out K F H (fun j => S (j + 1)) ws o
  slots := fun B vs i => iS T i.1 :: P.slots B vs.tail i.2
  os := fun vs o => .any :: P.os vs.tail o
  len := fun ⟨v, ws, e, _, r⟩ => by rw [e, List.length_cons, P.len r]
  slen := fun B vs i => by rw [List.length_cons, P.slen]
  oslen := fun vs o => by rw [List.length_cons, P.oslen]
  ok := fun ⟨v, ws, e, r1, r2⟩ j s h => by
    subst e
    cases j with
    | zero =>
      simp only [List.getElem?_cons_zero, Option.some.injEq] at h
      subst h
      exact ⟨v, rfl, r1⟩
    | succ j =>
      simp only [List.getElem?_cons_succ] at h ⊢
      exact P.ok r2 j s h
  oko := fun {K F H S vs o} σ hl h => by
    cases vs with
    | nil => simp at hl
    | cons v ws => exact ⟨v, ws, rfl, P.oko (S := fun j => S (j + 1)) (fun j => σ (j + 1)) (by simpa using hl) fun j s hj => h (j + 1) s (by simpa using hj)⟩
def gB {α ι ο : Type} (O : Own α) (P : ParG ι ο) : ParG (α × ι) ο where
  n := P.n + 1
  rel := fun K F H W S vs i => ∃ v ws, vs = v :: ws ∧ (∃ s : Fp, (∀ p, s p → H p ≠ none ∧ ¬ W p) ∧ O.rel K F H s v i.1) ∧ P.rel K F H W (fun j => S (j + 1)) ws i.2
  out := fun K F H S vs o => ∃ v ws, vs = v :: ws ∧ P.out K F H (fun j => S (j + 1)) ws o
  slots := fun B vs i => iS (tBor B O) i.1 :: P.slots B vs.tail i.2
  os := fun vs o => .any :: P.os vs.tail o
  len := fun ⟨v, ws, e, _, r⟩ => by rw [e, List.length_cons, P.len r]
  slen := fun B vs i => by rw [List.length_cons, P.slen]
  oslen := fun vs o => by rw [List.length_cons, P.oslen]
  ok := fun ⟨v, ws, e, r1, r2⟩ j s h => by
    subst e
    cases j with
    | zero =>
      simp only [List.getElem?_cons_zero, Option.some.injEq] at h
      subst h
      exact ⟨v, rfl, r1⟩
    | succ j =>
      simp only [List.getElem?_cons_succ] at h ⊢
      exact P.ok r2 j s h
  oko := fun {K F H S vs o} σ hl h => by
    cases vs with
    | nil => simp at hl
    | cons v ws => exact ⟨v, ws, rfl, P.oko (S := fun j => S (j + 1)) (fun j => σ (j + 1)) (by simpa using hl) fun j s hj => h (j + 1) s (by simpa using hj)⟩
def gO {α ι ο : Type} (O : Own α) (P : ParG ι ο) : ParG (α × ι) (α × ο) where
  n := P.n + 1
  rel := fun K F H W S vs i => ∃ v ws, vs = v :: ws ∧ O.rel K F H (S 0) v i.1 ∧ P.rel K F H W (fun j => S (j + 1)) ws i.2
  out := fun K F H S vs o => ∃ v ws, vs = v :: ws ∧ O.rel K F H (S 0) v o.1 ∧ P.out K F H (fun j => S (j + 1)) ws o.2
  slots := fun B vs i => .on α (oIs (vs.headD .non) O) i.1 :: P.slots B vs.tail i.2
  os := fun vs o => .on α (oIs (vs.headD .non) O) o.1 :: P.os vs.tail o.2
  len := fun ⟨v, ws, e, _, r⟩ => by rw [e, List.length_cons, P.len r]
  slen := fun B vs i => by rw [List.length_cons, P.slen]
  oslen := fun vs o => by rw [List.length_cons, P.oslen]
  ok := fun ⟨v, ws, e, r1, r2⟩ j s h => by
    subst e
    cases j with
    | zero =>
      simp only [List.getElem?_cons_zero, Option.some.injEq] at h
      subst h
      exact ⟨v, rfl, rfl, r1⟩
    | succ j =>
      simp only [List.getElem?_cons_succ] at h ⊢
      exact P.ok r2 j s h
  oko := fun {K F H S vs o} σ hl h => by
    cases vs with
    | nil => simp at hl
    | cons v ws =>
      obtain ⟨v', _, e, r⟩ := h 0 _ rfl
      have e' : v' = v := e
      subst e'
      exact ⟨v', ws, rfl, r, P.oko (S := fun j => S (j + 1)) (fun j => σ (j + 1)) (by simpa using hl) fun j s hj => h (j + 1) s (by simpa using hj)⟩

/-! ### promises -/
/-- a def that is lent things -/
def SpsB {ι ο β : Type} (P : ParG ι ο) (m : ι → Out β) (T : Ty β) (K : PySem.W.Frag) : Sp := fun vs H Q E => ∃ (i : ι) (F : Hp), Same F H ∧ P.rel K F H (fun _ => False) (fun _ _ => False) vs i ∧
  Post (m i) (fun b => ∀ v F' H', Stp F H F' H' → T.rel K F' v b → Q v H') (fun x => ∀ cls d F' H', Stp F H F' H' → ErrOk K F' x cls d → E cls d H')
def SpsBO {ι ο β : Type} (P : ParG ι ο) (m : ι → Out β) (O : Own β) (K : PySem.W.Frag) : Sp := fun vs H Q E => ∃ (i : ι) (F : Hp), Same F H ∧ P.rel K F H (fun _ => False) (fun _ _ => False) vs i ∧
  Post (m i) (fun b => ∀ v F' H' S, Stp F H F' H' → (∀ p, S p → F' p = none ∧ H' p ≠ none ∧ H p = none) → O.rel K F' H' S v b → Q v H') (fun x => ∀ cls d F' H', Stp F H F' H' → ErrOk K F' x cls d → E cls d H')
/-- a def that changes things and hands back None -/
def SpsP {ι ο : Type} (P : ParG ι ο) (m : ι → Out ο) (K : PySem.W.Frag) : Sp := fun vs H Q E => ∃ (i : ι) (F : Hp) (S : Nat → Fp), Same F H ∧ P.rel K F H (fun p => ∃ j, S j p) S vs i ∧ (∀ j p, S j p → F p = none ∧ H p ≠ none) ∧ (∀ j l p, S j p → S l p → j = l) ∧
  Post (m i) (fun o => ∀ F' H' S', SW (fun p => ∃ j, S j p) F H F' H' → (∀ j p, S' j p → F' p = none ∧ H' p ≠ none ∧ (H p = none ∨ ∃ l, S l p)) → (∀ j l p, S' j p → S' l p → j = l) → P.out K F' H' S' vs o → Q .non H')
    (fun x => ∀ cls d F' H', SW (fun p => ∃ j, S j p) F H F' H' → ErrOk K F' x cls d → E cls d H')
theorem env_startG {K : PySem.W.Frag} {ι ο : Type} {P : ParG ι ο} {i : ι} {N : List Str} {vs : List V} {F H : Hp} {S : Nat → Fp} (hF : Same F H) (hr : P.rel K F H (fun p => ∃ j, S j p) S vs i) (hN : P.n ≤ N.length) (hS : ∀ j p, S j p → F p = none ∧ H p ≠ none) (hd : ∀ j l p, S j p → S l p → j = l) :
    ∃ ω, EnvOk K ⟨F, H, fun p => ∃ j, S j p⟩ (P.slots ⟨F, H, fun p => ∃ j, S j p⟩ vs i ++ anyS (N.length - P.n)) (L2.start N vs) F H ω := by
  classical
  have hl := P.len hr
  have hω : ∀ p j, (if h : ∃ j, S j p then some h.choose else none) = some j ↔ S j p := fun p j => by
    by_cases c : ∃ j, S j p
    · rw [dif_pos c]
      constructor
      · intro z; rw [← Option.some.inj z]; exact c.choose_spec
      · intro z; exact congrArg some (hd _ _ p c.choose_spec z)
    · rw [dif_neg c]
      exact ⟨(fun z => nomatch z), fun z => absurd ⟨j, z⟩ c⟩
  refine ⟨fun p => if h : ∃ j, S j p then some h.choose else none, SW.refl hF, ?_, fun a j h => ?_, fun j s h => ?_⟩
  · unfold L2.start
    rw [List.length_append, List.length_append, List.length_map, List.length_replicate, P.slen, anyS_len, hl]
  · have := (hω a j).mp h
    exact ⟨(hS j a this).1, (hS j a this).2, .inr ⟨j, this⟩⟩
  · by_cases c : j < P.n
    · rw [List.getElem?_append_left (by rw [P.slen]; exact c)] at h
      have q := P.ok hr j s h
      rw [start_get j (by rw [hl]; exact c)]
      exact slot_iff q fun p => hω p j
    · rw [List.getElem?_append_right (by rw [P.slen]; omega)] at h
      rw [anyS_get _ _ _ h]
      trivial
section
variable {Pr : Program} {w : World} {K : PySem.W.Frag} {mg : Str → Option Value} {base : Heap} {x qual : Str} {params : Arguments} {body : List Stmt} {scope : Scope} {dvs : List V} {kws : List (Str × V)} {f : Addr} {fd : FuncData}
variable {ι ο β : Type} {P : ParG ι ο} {m : ι → Out β} {mp : ι → Out ο} {T : Ty β} {O : Own β} {N ps : List Str} {k : Nat}
theorem fn_bodyB (F : FunD K x qual params body scope dvs kws f fd) (S : FnScope N ps scope) (hn : P.n = ps.length) (hN : P.n ≤ N.length)
    (h : ∀ (X : Cx) (E : XK) (B : Bs) (vs : List V) (i : ι), X.prog = Pr → X.w = w → X.K = K → X.mg = mg → X.base = base → (∀ p, ¬ B.W p) → XC X N ⟨scope, scope⟩ k E → vs.length = P.n → WS X E B (P.slots B vs i ++ anyS (N.length - P.n)) [body] (m i) (fun b => .rt β T b)) :
    FnG Pr w K mg base (L2.CX Pr w) (k + 1) f fd ps (SpsB P m T K) := by
  refine okG F S (fun vs H Q E ⟨i, F0, _, r, _⟩ => (P.len r).trans hn) fun cdv A outer s H vs Q E hg hr ⟨i, F0, hF, r, po⟩ => ?_
  have eW : (fun p : Addr => ∃ j : Nat, (fun _ _ => False : Nat → Fp) j p) = fun _ => False := funext fun p => propext ⟨fun ⟨_, z⟩ => z, fun z => z.elim⟩
  obtain ⟨ω, en⟩ := env_startG (S := fun _ _ => False) (i := i) (N := N) hF (by rw [eW]; exact r) hN (fun _ _ z => z.elim) (fun _ _ _ z => z.elim)
  rw [eW] at en
  have q := h (cxOf (L2.CX Pr w) Pr w K mg base N qual scope f cdv A outer s H E) E ⟨F0, H, fun _ => False⟩ vs i rfl rfl rfl rfl rfl (fun _ z => z) (xc_def S.nd hg hr) (P.len r) (L2.start N vs) F0 H ω { nx := fun _ H' => Q .non H', rt := Q } en
    (po.mono (fun b q v F' H' s r => q v F' H' (SW.pure s) r) fun x q => rb_of q)
  obtain ⟨t, pt, ht⟩ := q
  exact ⟨t, pt, ht⟩
theorem fn_bodyBO (F : FunD K x qual params body scope dvs kws f fd) (S : FnScope N ps scope) (hn : P.n = ps.length) (hN : P.n ≤ N.length)
    (h : ∀ (X : Cx) (E : XK) (B : Bs) (vs : List V) (i : ι), X.prog = Pr → X.w = w → X.K = K → X.mg = mg → X.base = base → (∀ p, ¬ B.W p) → XC X N ⟨scope, scope⟩ k E → vs.length = P.n → WS X E B (P.slots B vs i ++ anyS (N.length - P.n)) [body] (m i) (fun b => .ro β O b)) :
    FnG Pr w K mg base (L2.CX Pr w) (k + 1) f fd ps (SpsBO P m O K) := by
  refine okG F S (fun vs H Q E ⟨i, F0, _, r, _⟩ => (P.len r).trans hn) fun cdv A outer s H vs Q E hg hr ⟨i, F0, hF, r, po⟩ => ?_
  have eW : (fun p : Addr => ∃ j : Nat, (fun _ _ => False : Nat → Fp) j p) = fun _ => False := funext fun p => propext ⟨fun ⟨_, z⟩ => z, fun z => z.elim⟩
  obtain ⟨ω, en⟩ := env_startG (S := fun _ _ => False) (i := i) (N := N) hF (by rw [eW]; exact r) hN (fun _ _ z => z.elim) (fun _ _ _ z => z.elim)
  rw [eW] at en
  have q := h (cxOf (L2.CX Pr w) Pr w K mg base N qual scope f cdv A outer s H E) E ⟨F0, H, fun _ => False⟩ vs i rfl rfl rfl rfl rfl (fun _ z => z) (xc_def S.nd hg hr) (P.len r) (L2.start N vs) F0 H ω { nx := fun _ H' => Q .non H', rt := Q } en
    (po.mono (fun b q v F' H' S s d r => q v F' H' S (SW.pure s) d r) fun x q => rb_of q)
  obtain ⟨t, pt, ht⟩ := q
  exact ⟨t, pt, ht⟩
theorem fn_bodyP (F : FunD K x qual params body scope dvs kws f fd) (S : FnScope N ps scope) (hn : P.n = ps.length) (hN : P.n ≤ N.length)
    (h : ∀ (X : Cx) (E : XK) (B : Bs) (vs : List V) (i : ι), X.prog = Pr → X.w = w → X.K = K → X.mg = mg → X.base = base → XC X N ⟨scope, scope⟩ k E → vs.length = P.n → WS X E B (P.slots B vs i ++ anyS (N.length - P.n)) [body] (mp i) (fun o => .nx (P.os vs o ++ anyS (N.length - P.n)))) :
    FnG Pr w K mg base (L2.CX Pr w) (k + 1) f fd ps (SpsP P mp K) := by
  refine okG F S (fun vs H Q E ⟨i, F0, S, _, r, _⟩ => (P.len r).trans hn) fun cdv A outer s H vs Q E hg hr ⟨i, F0, S0, hF, r, hS, hd, po⟩ => ?_
  obtain ⟨ω, en⟩ := env_startG (N := N) hF r hN hS hd
  have q := h (cxOf (L2.CX Pr w) Pr w K mg base N qual scope f cdv A outer s H E) E ⟨F0, H, fun p => ∃ j, S0 j p⟩ vs i rfl rfl rfl rfl rfl (xc_def S.nd hg hr) (P.len r) (L2.start N vs) F0 H ω { nx := fun _ H' => Q .non H', rt := Q } en
    (po.mono (fun o q σ F' H' ω' _ en' => q F' H' (fun j p => ω' p = some j) en'.base (fun j p hp => by
      obtain ⟨x, y, z⟩ := en'.own p j hp
      exact ⟨x, y, z⟩) (fun j l p h1 h2 => by
      rw [h1] at h2
      exact Option.some.inj h2) (P.oko (fun j => σ[j]?.join) (P.len r) fun j s hj => en'.slot j s (by
        rw [List.getElem?_append_left (List.getElem?_eq_some_iff.mp hj).1]
        exact hj))) fun x q cls d F' H' s e => q cls d F' H' s e)
  obtain ⟨t, pt, ht⟩ := q
  exact ⟨t, pt, ht⟩
end
end SL

set_option Elab.async false
set_option linter.all false
set_option maxRecDepth 100000
set_option maxHeartbeats 2000000
/-! SLw: calls of defs that are lent things, that change things. -/
namespace SL
open PySem PySem.Spec PyProof.Rows L2
variable {X : Cx} {N : List Str} {sc : Scp} {k : Nat} {E : XK} {B : Bs} {Γ : List Slot}

/-! ### arguments with what the slots hold -/
def WAs (X : Cx) (E : XK) (B : Bs) (Γ : List Slot) (es : List Expr) {β : Type} (c : L2.St → Ow → Hp → Hp → List V → Out β → Prop) (m : Out β) : Prop :=
  ∀ σ F H ω (P : β → Prop) (Q : List V → Hp → Prop), EnvOk X.K B Γ σ F H ω → Post m P (RB X.K B E) → (∀ vs F' H' o, Stp F H F' H' → c σ ω F' H' vs o → Post o P (RB X.K B E) → Q vs H') → sA X es σ H Q
theorem was_nil {β : Type} {c : L2.St → Ow → Hp → Hp → List V → Out β → Prop} {m : Out β} (h : ∀ σ ω F H, EnvOk X.K B Γ σ F H ω → c σ ω F H [] m) : WAs X E B Γ [] c m := fun σ F H ω P Q en p q => ⟨_, pa_nil, q [] F H m (Stp.refl en.fh) (h _ _ _ _ en) p⟩
theorem was_cons {β α : Type} {e : Expr} {es : List Expr} {R : Rl α} {m : Out α} {f : α → Out β} {c : L2.St → Ow → Hp → Hp → List V → Out β → Prop} (h : WE X E B Γ e R m)
    (hr : ∀ a, WAs X E B Γ es (fun σ ω F H vs o => ∀ v, R.rel X.K F H v a → c σ ω F H (v :: vs) o) (f a)) (hs : starEach (e :: es) X.env = (false, eval e X.env) :: starEach es X.env := by rfl) : WAs X E B Γ (e :: es) c (m >>= f) := fun σ F H ω P Q en p q => by
  refine ⟨_, pa_cons pe_s pa_s hs, ?_⟩
  refine h σ F H ω _ en (p.bind.imp fun a po v F1 H1 s1 r1 => ?_)
  exact hr a σ F1 H1 ω P _ (en.stp s1) po fun vs F2 H2 o s2 hc ho => q (v :: vs) F2 H2 o (s1.trans s2) (hc v (R.mono s2 r1)) ho
/-- the thing in slot i itself -/
theorem was_io (C : XC X N sc k E) (i : Nat) {x : Str} {pos : Pos} {β α : Type} {O : Own α} {a : α} {es : List Expr} {m : Out β} {c : L2.St → Ow → Hp → Hp → List V → Out β → Prop}
    (hr : WAs X E B Γ es (fun σ ω F H vs o => ∀ v, σ[i]? = some (some v) → c σ ω F H (v :: vs) o) m) (hΓ : Γ[i]? = some (.on α O a) := by rfl) (hN : N[i]? = some x := by rfl) (hv : Vis sc.sc x := by first | exact Or.inl rfl | exact Or.inr (Or.inl rfl) | exact Or.inr (Or.inr rfl))
    (hd : (x == ("__debug__" : Str)) = false := by decide) (hcd : (x == ("__classdict__" : Str)) = false := by decide) (hs : starEach (.Name x pos :: es) X.env = (false, eval (.Name x pos) X.env) :: starEach es X.env := by rfl) : WAs X E B Γ (.Name x pos :: es) c m := fun σ F H ω P Q en p q => by
  refine ⟨_, pa_cons (pv_ C hN hv hd hcd) pa_s hs, ?_⟩
  obtain ⟨v, hv, _⟩ := en.slot i _ hΓ
  exact ⟨v, join_some hv, hr σ F H ω P _ en p fun vs F2 H2 o s2 hc ho => q (v :: vs) F2 H2 o s2 (hc v (join_some hv)) ho⟩
/-- the addresses of the things that are changed -/
def ioF : List (Option Nat) → Ow → Nat → Fp
  | [], _, _ => fun _ => False
  | o :: _, ω, 0 => match o with
    | some i => fun p => ω p = some i
    | none => fun _ => False
  | _ :: is, ω, j + 1 => ioF is ω j
def IoAt (σ : L2.St) : List (Option Nat) → List V → Prop
  | [], _ => True
  | none :: is, vs => IoAt σ is vs.tail
  | some i :: is, vs => (∃ v, vs.head? = some v ∧ σ[i]? = some (some v)) ∧ IoAt σ is vs.tail
theorem ioF_get {ω : Ow} : ∀ {is : List (Option Nat)} {j : Nat} {p : Addr}, ioF is ω j p → ∃ i, is[j]? = some (some i) ∧ ω p = some i
  | [], _, _, h => h.elim
  | some i :: _, 0, p, h => ⟨i, rfl, h⟩
  | none :: _, 0, p, h => h.elim
  | _ :: is, j + 1, p, h => by
    obtain ⟨i, h1, h2⟩ := ioF_get (is := is) h
    exact ⟨i, by simpa using h1, h2⟩
theorem get_ioF {ω : Ow} : ∀ {is : List (Option Nat)} {j i : Nat} {p : Addr}, is[j]? = some (some i) → ω p = some i → ioF is ω j p
  | [], _, _, _, h, _ => by simp at h
  | some i :: _, 0, _, p, h, h2 => by
    simp at h
    subst h
    exact h2
  | none :: _, 0, _, p, h, _ => by simp at h
  | some _ :: is, j + 1, i, p, h, h2 => get_ioF (is := is) (by simpa using h) h2
  | none :: is, j + 1, i, p, h, h2 => get_ioF (is := is) (by simpa using h) h2
/-- the slots' new things, in the row of the parameters -/
def NewAt (K : PySem.W.Frag) (F H : Hp) (σ : L2.St) : (Nat → Fp) → List (Option Nat) → List (Nat × Slot) → Prop
  | _, [], us => us = []
  | S, none :: is, us => NewAt K F H σ (fun j => S (j + 1)) is us
  | S, some i :: is, us => ∃ s rest, us = (i, s) :: rest ∧ s.ok K F H (S 0) (σ[i]?.join) ∧ NewAt K F H σ (fun j => S (j + 1)) is rest
theorem newAt_mem {K : PySem.W.Frag} {F H : Hp} {σ : L2.St} : ∀ {is : List (Option Nat)} {S : Nat → Fp} {us : List (Nat × Slot)}, NewAt K F H σ S is us → (∀ u ∈ us, ∃ j, is[j]? = some (some u.1) ∧ u.2.ok K F H (S j) (σ[u.1]?.join)) ∧ ∀ (i j : Nat), is[j]? = some (some i) → ∃ s, (i, s) ∈ us
  | [], S, us, h => by
    have h' : us = [] := h
    subst h'
    exact ⟨by simp, by simp⟩
  | none :: is, S, us, h => by
    obtain ⟨h1, h2⟩ := newAt_mem (is := is) h
    refine ⟨fun u hu => ?_, fun i j hj => ?_⟩
    · obtain ⟨j, hj, r⟩ := h1 u hu
      exact ⟨j + 1, by simpa using hj, r⟩
    · cases j with
      | zero => simp at hj
      | succ j => exact h2 i j (by simpa using hj)
  | some i :: is, S, us, h => by
    obtain ⟨s, rest, rfl, r, h⟩ := h
    obtain ⟨h1, h2⟩ := newAt_mem (is := is) h
    refine ⟨fun u hu => ?_, fun l j hj => ?_⟩
    · rcases List.mem_cons.mp hu with rfl | hu
      · exact ⟨0, rfl, r⟩
      · obtain ⟨j, hj, r⟩ := h1 u hu
        exact ⟨j + 1, by simpa using hj, r⟩
    · cases j with
      | zero =>
        simp at hj
        subst hj
        exact ⟨s, by simp⟩
      | succ j =>
        obtain ⟨t, ht⟩ := h2 l j (by simpa using hj)
        exact ⟨t, by simp [ht]⟩
abbrev setAll (Γ : List Slot) (us : List (Nat × Slot)) : List Slot := us.foldl (fun G u => G.set u.1 u.2) Γ
theorem setAll_len : ∀ (us : List (Nat × Slot)) (Γ : List Slot), (setAll Γ us).length = Γ.length
  | [], _ => rfl
  | u :: us, Γ => by
    show (setAll (Γ.set u.1 u.2) us).length = _
    rw [setAll_len us, List.length_set]
theorem setAll_get : ∀ (us : List (Nat × Slot)) (Γ : List Slot) (i : Nat) (s : Slot), (setAll Γ us)[i]? = some s → (i, s) ∈ us ∨ (Γ[i]? = some s ∧ ∀ u ∈ us, u.1 ≠ i)
  | [], _, i, s, h => .inr ⟨h, by simp⟩
  | u :: us, Γ, i, s, h => by
    have h' : (setAll (Γ.set u.1 u.2) us)[i]? = some s := h
    rcases setAll_get us _ i s h' with h1 | ⟨h1, h2⟩
    · exact .inl (by simp [h1])
    · by_cases c : u.1 = i
      · subst c
        have hl : u.1 < Γ.length := by
          have := (List.getElem?_eq_some_iff.mp h1).1
          simpa using this
        rw [List.getElem?_set_self hl] at h1
        cases h1
        exact .inl (by simp)
      · rw [List.getElem?_set_ne c] at h1
        refine .inr ⟨h1, fun v hv => ?_⟩
        rcases List.mem_cons.mp hv with rfl | hv
        · exact c
        · exact h2 v hv
/-- the slots behind a call -/
theorem env_call {K : PySem.W.Frag} {Γ : List Slot} {σ : L2.St} {F H F' H' : Hp} {ω : Ow} {is : List (Option Nat)} {S' : Nat → Fp} {us : List (Nat × Slot)} (e : EnvOk K B Γ σ F H ω) (hsw : SW (fun p => ∃ j, ioF is ω j p) F H F' H') (hS : ∀ j p, S' j p → F' p = none ∧ H' p ≠ none ∧ (H p = none ∨ ∃ l, ioF is ω l p))
    (hd : ∀ j l p, S' j p → S' l p → j = l) (hnd : ∀ (j l i : Nat), is[j]? = some (some i) → is[l]? = some (some i) → j = l) (hn : NewAt K F' H' σ S' is us) : ∃ ω', EnvOk K B (setAll Γ us) σ F' H' ω' := by
  classical
  obtain ⟨n1, n2⟩ := newAt_mem hn
  let io : Nat → Prop := fun i => ∃ j : Nat, is[j]? = some (some i)
  let nw : Addr → Nat → Prop := fun p i => ∃ j : Nat, is[j]? = some (some i) ∧ S' j p
  have nwu : ∀ {p i l}, nw p i → nw p l → i = l := fun {p i l} ⟨j, a, b⟩ ⟨j2, a2, b2⟩ => by
    have := hd j j2 p b b2
    subst this
    rw [a] at a2
    exact Option.some.inj (Option.some.inj a2)
  let ω' : Ow := fun p => if h : ∃ i, nw p i then some h.choose else if ∃ i, io i ∧ ω p = some i then none else ω p
  have hω : ∀ p l, ω' p = some l ↔ nw p l ∨ ((¬ ∃ i, nw p i) ∧ ¬ io l ∧ ω p = some l) := fun p l => by
    show (if h : ∃ i, nw p i then some h.choose else if ∃ i, io i ∧ ω p = some i then none else ω p) = some l ↔ _
    by_cases c : ∃ i, nw p i
    · rw [dif_pos c]
      constructor
      · intro z; rw [← Option.some.inj z]; exact .inl c.choose_spec
      · rintro (z | ⟨z, _⟩)
        · exact congrArg some (nwu c.choose_spec z)
        · exact absurd c z
    · rw [dif_neg c]
      by_cases c2 : ∃ i, io i ∧ ω p = some i
      · rw [if_pos c2]
        constructor
        · exact fun z => nomatch z
        · rintro (z | ⟨_, y, z⟩)
          · exact absurd ⟨l, z⟩ c
          · obtain ⟨i, h1, h2⟩ := c2
            rw [h2] at z
            exact absurd (Option.some.inj z ▸ h1) y
      · rw [if_neg c2]
        constructor
        · intro z; exact .inr ⟨c, fun y => c2 ⟨l, y, z⟩, z⟩
        · rintro (z | ⟨_, _, z⟩)
          · exact absurd ⟨l, z⟩ c
          · exact z
  have hown : ∀ p l, ω p = some l → ¬ io l → ¬ ∃ i, nw p i := fun p l h1 h2 ⟨i, j, h3, h4⟩ => by
    rcases (hS j p h4).2.2 with z | ⟨m, z⟩
    · exact (e.own p l h1).2.1 z
    · obtain ⟨q, y1, y2⟩ := ioF_get z
      rw [h1] at y2
      exact h2 ⟨m, by rw [y1, Option.some.inj y2]⟩
  have hW : ∀ p, (∃ j, ioF is ω j p) → B.H p = none ∨ B.W p := fun p ⟨j, hj⟩ => by
    obtain ⟨i, _, h2⟩ := ioF_get hj
    exact (e.own p i h2).2.2
  refine ⟨ω', ⟨e.base.ff.trans hsw.ff, hsw.fh, fun a o h n => ?_, fun a h => hsw.there a (e.base.there a h), fun a h1 h2 => hsw.old a (e.base.old a h1 h2) (e.base.there a h2)⟩, ?_, fun p l hl => ?_, fun l t hl => ?_⟩
  · refine hsw.hh a o (e.base.hh a o h n) fun z => ?_
    rcases hW a z with y | y
    · rw [y] at h; cases h
    · exact n y
  · rw [setAll_len]
    exact e.len
  · rcases (hω p l).mp hl with ⟨j, h1, h2⟩ | ⟨_, _, h3⟩
    · obtain ⟨x, y, z⟩ := hS j p h2
      refine ⟨x, y, ?_⟩
      rcases z with z | z
      · refine .inl ?_
        cases q : B.H p with
        | none => rfl
        | some o => exact absurd z (e.base.there p (by rw [q]; exact fun z => nomatch z))
      · exact hW p z
    · obtain ⟨x, y, z⟩ := e.own p l h3
      exact ⟨hsw.old p x y, hsw.there p y, z⟩
  · rcases setAll_get us Γ l t hl with h1 | ⟨h1, h2⟩
    · obtain ⟨j, hj, r⟩ := n1 _ h1
      refine slot_iff r fun p => ?_
      rw [hω p l]
      constructor
      · rintro (⟨j2, a, b⟩ | ⟨_, y, _⟩)
        · rw [hnd j j2 l hj a]; exact b
        · exact absurd ⟨j, hj⟩ y
      · exact fun z => .inl ⟨j, hj, z⟩
    · have hno : ¬ io l := fun ⟨j, hj⟩ => by
        obtain ⟨s, hs⟩ := n2 l j hj
        exact h2 _ hs rfl
      refine slot_iff (Slot.keep (e.slot l t h1) hsw.ff fun p hp => ?_) fun p => ?_
      · cases q : H p with
        | none => exact absurd q (e.own p l hp).2.1
        | some o =>
          refine hsw.hh p o q fun ⟨j, hj⟩ => ?_
          obtain ⟨i, y1, y2⟩ := ioF_get hj
          rw [hp] at y2
          exact hno ⟨j, by rw [y1, Option.some.inj y2]⟩
      · rw [hω p l]
        constructor
        · rintro (⟨j, a, _⟩ | ⟨_, _, z⟩)
          · exact absurd ⟨j, a⟩ hno
          · exact z
        · exact fun z => .inr ⟨hown p l z hno, hno, z⟩
/-- the new things of the slots, by what the def hands back -/
def NewOk (Γ : List Slot) {ι ο : Type} (P : ParG ι ο) (is : List (Option Nat)) (us : ο → List (Nat × Slot)) : Prop :=
  ∀ (K : PySem.W.Frag) (σ : L2.St) (F0 H0 : Hp) (ω0 : Ow) (vs : List V) (F H : Hp) (S : Nat → Fp) (o : ο), (∀ (i : Nat) (s : Slot), Γ[i]? = some s → s.ok K F0 H0 (fun p => ω0 p = some i) (σ[i]?.join)) → IoAt σ is vs → P.out K F H S vs o → NewAt K F H σ S is (us o)
theorem new_n : NewOk Γ gN [] (fun _ => []) := fun K σ F0 H0 ω0 vs F H S o _ _ _ => rfl
section
variable {ι ο α : Type} {P : ParG ι ο} {is : List (Option Nat)} {us : ο → List (Nat × Slot)} {T : Ty α} {O : Own α}
theorem new_i (h : NewOk Γ P is us) : NewOk Γ (gI T P) (none :: is) us := fun K σ F0 H0 ω0 vs F H S o e a ⟨v, ws, e1, r⟩ => by
  subst e1
  exact h K σ F0 H0 ω0 ws F H _ o e a r
theorem new_b (h : NewOk Γ P is us) : NewOk Γ (gB O P) (none :: is) us := fun K σ F0 H0 ω0 vs F H S o e a ⟨v, ws, e1, r⟩ => by
  subst e1
  exact h K σ F0 H0 ω0 ws F H _ o e a r
theorem new_o {i : Nat} {a0 : α} (h : NewOk Γ P is us) (hΓ : Γ[i]? = some (.on α O a0) := by rfl) : NewOk Γ (gO O P) (some i :: is) (fun o => (i, .on α O o.1) :: us o.2) := fun K σ F0 H0 ω0 vs F H S o e a ⟨v, ws, e1, r1, r⟩ => by
  subst e1
  obtain ⟨⟨v', hv', hs⟩, a⟩ := a
  cases hv'
  exact ⟨_, _, rfl, ⟨v, by rw [hs]; rfl, r1⟩, h K σ F0 H0 ω0 ws F H _ o.2 e a r⟩
theorem new_s {i : Nat} {a0 : α} {u : V} (h : NewOk Γ P is us) (hΓ : Γ[i]? = some (.on α (oIs u O) a0) := by rfl) : NewOk Γ (gO O P) (some i :: is) (fun o => (i, .on α (oIs u O) o.1) :: us o.2) := fun K σ F0 H0 ω0 vs F H S o e a ⟨v, ws, e1, r1, r⟩ => by
  subst e1
  obtain ⟨⟨v', hv', hs⟩, a⟩ := a
  cases hv'
  obtain ⟨v2, hv2, e2, _⟩ := e i _ hΓ
  rw [hs] at hv2
  cases hv2
  exact ⟨_, _, rfl, ⟨v, by rw [hs]; rfl, e2, r1⟩, h K σ F0 H0 ω0 ws F H _ o.2 e a r⟩
/-- what a slot holds, by its value -/
theorem io_own {K : PySem.W.Frag} {σ : L2.St} {F H : Hp} {ω : Ow} {v : V} {a : α} (en : EnvOk K B Γ σ F H ω) (i : Nat) (hv : σ[i]? = some (some v)) (hΓ : Γ[i]? = some (.on α O a) := by rfl) : O.rel K F H (fun p => ω p = some i) v a := by
  obtain ⟨v', e, r⟩ := en.slot i _ hΓ
  rw [hv] at e
  cases e
  exact r
theorem io_is {K : PySem.W.Frag} {σ : L2.St} {F H : Hp} {ω : Ow} {v u : V} {a : α} (en : EnvOk K B Γ σ F H ω) (i : Nat) (hv : σ[i]? = some (some v)) (hΓ : Γ[i]? = some (.on α (oIs u O) a) := by rfl) : O.rel K F H (fun p => ω p = some i) v a := (io_own en i hv hΓ).2
/-- .. lent -/
theorem bo_own {K : PySem.W.Frag} {σ : L2.St} {F H : Hp} {ω : Ow} {v : V} {a : α} {is : List (Option Nat)} (en : EnvOk K B Γ σ F H ω) (i : Nat) (hv : σ[i]? = some (some v)) (hn : some i ∉ is := by simp) (hΓ : Γ[i]? = some (.on α O a) := by rfl) : ∃ s : Fp, (∀ p, s p → H p ≠ none ∧ ¬ ∃ j, ioF is ω j p) ∧ O.rel K F H s v a :=
  ⟨_, fun p hp => ⟨(en.own p i hp).2.1, fun ⟨j, hj⟩ => by
    obtain ⟨l, h1, h2⟩ := ioF_get hj
    have hp' : ω p = some i := hp
    rw [hp'] at h2
    exact hn (Option.some.inj h2 ▸ List.mem_of_getElem? h1)⟩, io_own en i hv hΓ⟩
theorem bo_is {K : PySem.W.Frag} {σ : L2.St} {F H : Hp} {ω : Ow} {v u : V} {a : α} {is : List (Option Nat)} (en : EnvOk K B Γ σ F H ω) (i : Nat) (hv : σ[i]? = some (some v)) (hn : some i ∉ is := by simp) (hΓ : Γ[i]? = some (.on α (oIs u O) a) := by rfl) : ∃ s : Fp, (∀ p, s p → H p ≠ none ∧ ¬ ∃ j, ioF is ω j p) ∧ O.rel K F H s v a := by
  obtain ⟨s, h1, h2⟩ := bo_own en i hv hn hΓ
  exact ⟨s, h1, h2.2⟩
theorem bo_bor {K : PySem.W.Frag} {σ : L2.St} {F H : Hp} {ω : Ow} {v : V} {a : α} {is : List (Option Nat)} (en : EnvOk K B Γ σ F H ω) (i : Nat) (hv : σ[i]? = some (some v)) (hΓ : Γ[i]? = some (iS (tBor B O) a) := by rfl) : ∃ s : Fp, (∀ p, s p → H p ≠ none ∧ ¬ ∃ j, ioF is ω j p) ∧ O.rel K F H s v a := by
  obtain ⟨v', e, r⟩ := en.slot i _ hΓ
  rw [hv] at e
  cases e
  obtain ⟨S, h1, h2⟩ := bor_vw en F r
  refine ⟨S, fun p hp => ⟨(h1 p hp).1, fun ⟨j, hj⟩ => ?_⟩, h2⟩
  obtain ⟨l, _, h4⟩ := ioF_get hj
  rcases (en.own p l h4).2.2 with z | z
  · exact (h1 p hp).2.1 z
  · exact (h1 p hp).2.2 z
/-- .. where nothing is changed -/
theorem bo_no {K : PySem.W.Frag} {F H : Hp} {v : V} {a : α} {ω : Ow} {is : List (Option Nat)} (h : ∃ s : Fp, (∀ p, s p → H p ≠ none ∧ ¬ ∃ j, ioF is ω j p) ∧ O.rel K F H s v a) : ∃ s : Fp, (∀ p, s p → H p ≠ none ∧ ¬ False) ∧ O.rel K F H s v a := by
  obtain ⟨s, h1, h2⟩ := h
  exact ⟨s, fun p hp => ⟨(h1 p hp).1, id⟩, h2⟩
end
theorem nd_io {is : List (Option Nat)} (h : (is.filterMap id).Nodup) {j l i : Nat} (h1 : is[j]? = some (some i)) (h2 : is[l]? = some (some i)) : j = l := by
  induction is generalizing j l with
  | nil => simp at h1
  | cons x is ih =>
    have up : ∀ {m : Nat}, is[m]? = some (some i) → i ∈ is.filterMap id := fun {m} hm => by
      rw [List.mem_filterMap]
      exact ⟨some i, List.mem_of_getElem? hm, rfl⟩
    have nd : (is.filterMap id).Nodup := by
      cases x with
      | none => simpa using h
      | some y =>
        simp only [List.filterMap_cons, id] at h
        exact (List.nodup_cons.mp h).2
    cases j with
    | zero =>
      cases l with
      | zero => rfl
      | succ l =>
        simp at h1 h2
        subst h1
        simp only [List.filterMap_cons, id] at h
        exact absurd (up h2) (List.nodup_cons.mp h).1
    | succ j =>
      cases l with
      | zero =>
        simp at h1 h2
        subst h2
        simp only [List.filterMap_cons, id] at h
        exact absurd (up h1) (List.nodup_cons.mp h).1
      | succ l => exact congrArg (· + 1) (ih nd (by simpa using h1) (by simpa using h2))
/-- the arguments of a call -/
def CallP {ι ο : Type} (K : PySem.W.Frag) (P : ParG ι ο) (m : ι → Out ο) (dvs : List V) (is : List (Option Nat)) (σ : L2.St) (ω : Ow) (F H : Hp) (vs : List V) (o : Out ο) : Prop :=
  IoAt σ is (vs ++ dvs) ∧ ∃ i, o = m i ∧ P.rel K F H (fun p => ∃ j, ioF is ω j p) (ioF is ω) (vs ++ dvs) i
def CallB {ι ο β : Type} (K : PySem.W.Frag) (P : ParG ι ο) (m : ι → Out β) (dvs : List V) (_σ : L2.St) (_ω : Ow) (F H : Hp) (vs : List V) (o : Out β) : Prop := ∃ i, o = m i ∧ P.rel K F H (fun _ => False) (fun _ _ => False) (vs ++ dvs) i
section
variable {ι ο β : Type} {P : ParG ι ο} {mf : ι → Out β} {mp : ι → Out ο} {T : Ty β} {O : Own β} {j : Nat} {name : Str} {ps : List Str} {dvs : List V} {e : Expr} {es : List Expr} {m : Out β} {mo : Out ο} {p pos : Pos}
theorem we_callB (C : XC X N sc k E) (G : DefX X j name ps dvs (SpsB P mf T X.K)) (hk : j ≤ k) (ha : WAs X E B Γ (e :: es) (CallB X.K P mf dvs) m) (hg : GlN sc name := by rfl) (hdb : (name == ("__debug__" : Str)) = false := by decide)
    (he : starEach (e :: es) X.env = (false, eval e X.env) :: starEach es X.env := by rfl) (hpl : (backTo pos (starEach es X.env)).any (·.1) = false := by rfl) : WE X E B Γ (.Call (.Name name p) (e :: es) [] pos) T.rl m := fun σ F H ω Q en q => by
  obtain ⟨f, fd, ds, G, gm, kp, hb, hd⟩ := G
  exact ⟨_, pe_callG G C.gd (C.room.mono hk) (gl_ C hg) gm kp hb hd C.pass pa_s hdb he hpl, ha σ F H ω _ _ en q fun vs F' H' o s ⟨i, e, r⟩ po => by
    subst e
    exact ⟨i, F', s.fh, r, po.mono (fun b q v F2 H2 s2 r2 => q v F2 H2 (s.trans s2) r2) fun x h => err_up en s h⟩⟩
theorem wo_callB (C : XC X N sc k E) (G : DefX X j name ps dvs (SpsBO P mf O X.K)) (hk : j ≤ k) (ha : WAs X E B Γ (e :: es) (CallB X.K P mf dvs) m) (hg : GlN sc name := by rfl) (hdb : (name == ("__debug__" : Str)) = false := by decide)
    (he : starEach (e :: es) X.env = (false, eval e X.env) :: starEach es X.env := by rfl) (hpl : (backTo pos (starEach es X.env)).any (·.1) = false := by rfl) : WO X E B Γ (.Call (.Name name p) (e :: es) [] pos) O m := fun σ F H ω Q en q => by
  obtain ⟨f, fd, ds, G, gm, kp, hb, hd⟩ := G
  exact ⟨_, pe_callG G C.gd (C.room.mono hk) (gl_ C hg) gm kp hb hd C.pass pa_s hdb he hpl, ha σ F H ω _ _ en q fun vs F' H' o s ⟨i, e, r⟩ po => by
    subst e
    exact ⟨i, F', s.fh, r, po.mono (fun b q v F2 H2 S s2 d r2 => q v F2 H2 S (s.trans s2) (new_of s d) r2) fun x h => err_up en s h⟩⟩
/-- a call that changes things -/
theorem ws_callP {γ : Type} {D : γ → SOut} {b : List Stmt} {bs : List (List Stmt)} {f : ο → Out γ} {pos2 : Pos} (C : XC X N sc k E) (G : DefX X j name ps dvs (SpsP P mp X.K)) (hk : j ≤ k) (is : List (Option Nat)) (us : ο → List (Nat × Slot)) (hn : NewOk Γ P is us)
    (ha : WAs X E B Γ (e :: es) (CallP X.K P mp dvs is) mo) (hr : ∀ o, WS X E B (setAll Γ (us o)) (b :: bs) (f o) D) (hnd : (is.filterMap id).Nodup := by decide) (hg : GlN sc name := by rfl) (hdb : (name == ("__debug__" : Str)) = false := by decide)
    (he : starEach (e :: es) X.env = (false, eval e X.env) :: starEach es X.env := by rfl) (hpl : (backTo pos (starEach es X.env)).any (·.1) = false := by rfl) (hsw : swapsWith (.Call (.Name name p) (e :: es) [] pos) none pos2.line X.env = pure false := by rfl) :
    WS X E B Γ ((.Expr (.Call (.Name name p) (e :: es) [] pos) pos2 :: b) :: bs) (mo >>= f) D := fun σ F H ω En en q => by
  obtain ⟨f, fd, ds, G, gm, kp, hb, hd⟩ := G
  refine sK_cons ⟨_, ps_expr (pe_callG G C.gd (C.room.mono hk) (gl_ C hg) gm kp hb hd C.pass pa_s hdb he hpl) hsw, ha σ F H ω _ _ en q.bind fun vs F' H' o s ⟨hio, i, e, r⟩ po => ?_⟩
  subst e
  have en' := en.stp s
  refine ⟨i, F', ioF is ω, s.fh, r, fun j p hp => ?_, fun j l p h1 h2 => ?_, po.mono (fun o q F2 H2 S' sw hS hd2 hout => ?_) fun x h cls d F2 H2 sw ee => ?_⟩
  · obtain ⟨i, _, h2⟩ := ioF_get hp
    exact ⟨(en'.own p i h2).1, (en'.own p i h2).2.1⟩
  · obtain ⟨i1, a1, b1⟩ := ioF_get h1
    obtain ⟨i2, a2, b2⟩ := ioF_get h2
    rw [b1] at b2
    cases b2
    exact nd_io hnd a1 a2
  · obtain ⟨ω', en2⟩ := env_call en' sw hS hd2 (fun j l i a1 a2 => nd_io hnd a1 a2) (hn X.K σ F' H' ω (vs ++ dvs) F2 H2 S' o en'.slot hio hout)
    exact hr o σ F2 H2 ω' En en2 (Post.imp q fun b z => EndOk.up z (s.ff.trans sw.ff))
  · refine h cls d F2 H2 ?_ ee
    have e1 := en'.base
    have hW : ∀ p, (∃ j, ioF is ω j p) → B.H p = none ∨ B.W p := fun p ⟨j, hj⟩ => by
      obtain ⟨i, _, h2⟩ := ioF_get hj
      exact (en'.own p i h2).2.2
    exact ⟨e1.ff.trans sw.ff, sw.fh, fun a o h n => sw.hh a o (e1.hh a o h n) fun z => by
      rcases hW a z with y | y
      · rw [y] at h; cases h
      · exact n y, fun a h => sw.there a (e1.there a h), fun a h1 h2 => sw.old a (e1.old a h1 h2) (e1.there a h2)⟩
end
end SL

set_option Elab.async false
set_option linter.all false
set_option maxRecDepth 100000
set_option maxHeartbeats 2000000
/-! SLx: dicts that are locked and walked; parallel assignments; op=; pops. -/
namespace SL
open PySem PySem.Spec PyProof.Rows L2
variable {X : Cx} {N : List Str} {sc : Scp} {k : Nat} {E : XK} {B : Bs} {Γ : List Slot}

theorem WAs.cast {es : List Expr} {β : Type} {c : L2.St → Ow → Hp → Hp → List V → Out β → Prop} {m m' : Out β} (h : WAs X E B Γ es c m) (q : m = m') : WAs X E B Γ es c m' := q ▸ h
/-! ### what is known to be at u, read -/
theorem vw_is {α : Type} {O : Own α} {u : V} : ∀ K F H v (a : α), Same F H → (oIs u O).vw.rel K F H v a → O.vw.rel K F H v a := fun K F H v a _ ⟨S, n, _, r⟩ => ⟨S, n, r⟩
theorem we_vwi (C : XC X N sc k E) (i : Nat) {x : Str} {pos : Pos} {α : Type} {O : Own α} {u : V} {a : α} (hΓ : Γ[i]? = some (.on α (oIs u O) a) := by rfl) (hN : N[i]? = some x := by rfl) (hv : Vis sc.sc x := by first | exact Or.inl rfl | exact Or.inr (Or.inl rfl) | exact Or.inr (Or.inr rfl))
    (hd : (x == ("__debug__" : Str)) = false := by decide) (hcd : (x == ("__classdict__" : Str)) = false := by decide) : WE X E B Γ (.Name x pos) O.vw (pure a) := (we_vw C i hΓ hN hv hd hcd).sub vw_is

/-! ### fixed dicts -/
def tDi {κ α : Type} [DecidableEq κ] (KD : KeyD κ) (T : Ty α) : Ty (List (κ × α)) := ⟨fun K F v a => ∃ p o vs, v = .ref p ∧ F p = some (.frz o (KD.ho ((a.map Prod.fst).zip vs))) ∧ Fa2 (T.rel K F) vs (a.map Prod.snd), fun s ⟨p, o, vs, e, h, r⟩ => ⟨p, o, vs, e, s _ _ h, r.imp fun _ _ => T.mono s⟩⟩
/-- the statements run with the thing at d locked from now on -/
def tLockN (t : TS) : TS := fun D σ H => ∃ d u, H d = some u ∧ Mut (some u) ∧ ∀ od, t D σ (upd H d (.frz od u))
theorem pss_lockN {ss : List Stmt} {t : TS} (h : PSs X ss t) : PSs X ss (tLockN t) := by
  refine ⟨fun pins s σ H D I hw => ?_⟩
  obtain ⟨d, u, hd, mu, hw⟩ := hw
  obtain ⟨od, I1⟩ := I.lock hd mu
  exact h.run pins s σ _ _ I1 (hw od)
theorem mut_ho {κ : Type} [DecidableEq κ] (KD : KeyD κ) (h : ∀ kvs, Mut (some (KD.ho kvs))) (kvs : List (κ × V)) : Mut (some (KD.ho kvs)) := h kvs
/-- the own dict in slot i is fixed -/
theorem ws_fzd {κ α β : Type} [DecidableEq κ] {KD : KeyD κ} {O : Own α} {T : Ty α} {D : β → SOut} {b : List Stmt} {bs : List (List Stmt)} {m : Out β} {a : List (κ × α)} (i : Nat) (z : Fz O T) (mu : ∀ kvs, Mut (some (KD.ho kvs))) (hW : ∀ p, ¬ B.W p) (hΓ : Γ[i]? = some (.on _ (oDi KD O) a)) (h : WS X E B (Γ.set i (iS (tDi KD T) a)) (b :: bs) m D) : WS X E B Γ (b :: bs) m D := fun σ F H ω En en q => by
  classical
  obtain ⟨v, hv, hn, p, vs, ss, e, sp, hp, it, hs, hd⟩ := en.slot i _ hΓ
  subst e
  have hi : ω p = some i := sp
  obtain ⟨p1, p2, p3⟩ := en.own p i hi
  have p3 := p3.resolve_right (hW p)
  suffices hh : ∀ od, sSs X b { En with nx := fun σ' H' => sK X bs En σ' H' } σ (upd H p (.frz od (KD.ho ((a.map Prod.fst).zip vs)))) by
    refine ⟨_, pss_lockN pss_s, p, _, hp, mu _, fun od => hh od⟩
  intro od
  let S : Fp := fun q => ω q = some i ∧ q ≠ p
  have dj : ∀ q, S q → F q = none := fun q hq => (en.own q i hq.1).1
  let F' : Hp := fun q => if q = p then some (.frz od (KD.ho ((a.map Prod.fst).zip vs))) else frz F H S q
  have F'p : F' p = some (.frz od (KD.ho ((a.map Prod.fst).zip vs))) := if_pos rfl
  have F'n : ∀ q, q ≠ p → F' q = frz F H S q := fun q hq => if_neg hq
  have sm : Same F F' := fun q o hq => by
    rw [F'n q (fun z => by rw [z, p1] at hq; cases hq)]
    exact frz_same dj q o hq
  have fh : Same F' (upd H p (.frz od (KD.ho ((a.map Prod.fst).zip vs)))) := fun q o hq => by
    by_cases c : q = p
    · subst c
      rw [F'p] at hq
      rw [upd_same]; exact hq
    · rw [F'n q c] at hq
      rw [upd_ne c]
      exact frz_sub en.base.fh q o hq
  have en' : EnvOk X.K B (Γ.set i (iS (tDi KD T) a)) σ F' (upd H p (.frz od (KD.ho ((a.map Prod.fst).zip vs)))) (fun q => if ω q = some i then none else ω q) := by
    refine ⟨⟨en.base.ff.trans sm, fh, fun q o hq hw => ?_, fun q hq => ?_, fun q h1 h2 => ?_⟩, by rw [List.length_set, en.len], fun q j hj => ?_, fun j t hj => ?_⟩
    · rw [upd_ne (fun z => by rw [z, p3] at hq; cases hq)]
      exact en.base.hh q o hq hw
    · by_cases c : q = p
      · rw [c, upd_same]; exact fun z => nomatch z
      · rw [upd_ne c]; exact en.base.there q hq
    · have c : q ≠ p := fun z => h2 (z ▸ p3)
      rw [F'n q c]
      by_cases c2 : S q
      · exact absurd ((en.own q i c2.1).2.2.resolve_right (hW q)) h2
      · rw [frz_out c2]
        exact en.base.old q h1 h2
    · by_cases c : ω q = some i
      · rw [if_pos c] at hj; cases hj
      · rw [if_neg c] at hj
        have cp : q ≠ p := fun z => c (z ▸ hi)
        obtain ⟨z1, z2, z3⟩ := en.own q j hj
        exact ⟨by rw [F'n q cp, frz_out (fun z : S q => c z.1)]; exact z1, by rw [upd_ne cp]; exact z2, z3⟩
    · by_cases c : i = j
      · subst c
        have hil : i < Γ.length := (List.getElem?_eq_some_iff.mp hΓ).1
        rw [List.getElem?_set_self hil] at hj
        cases hj
        refine ⟨_, hv, p, od, vs, rfl, F'p, ?_⟩
        have := its_fz z dj it (fun s hm q hq => hs s hm q hq)
        refine this.imp fun w x r => T.mono (fun q o hq => ?_) r
        by_cases c2 : q = p
        · subst c2
          rw [frz_out (fun z : S q => z.2 rfl), p1] at hq
          cases hq
        · rw [F'n q c2]; exact hq
      · rw [List.getElem?_set_ne c] at hj
        refine slot_iff (Slot.keep (en.slot j t hj) sm fun q hq => upd_ne fun z => ?_) fun q => ?_
        · have hq' : ω q = some j := hq
          rw [z, hi] at hq'
          exact c (Option.some.inj hq')
        · by_cases c2 : ω q = some i
          · simp only [if_pos c2]
            rw [c2]
            exact ⟨(fun z => nomatch z), fun z => absurd (Option.some.inj z) c⟩
          · simp only [if_neg c2]
  exact h σ F' _ _ En en' (q.imp fun b z => EndOk.up z sm)
theorem mut_I (kvs : List (Int × V)) : Mut (some (kdI.ho kvs)) := trivial
theorem mut_P (kvs : List ((Int × Int) × V)) : Mut (some (kdP.ho kvs)) := trivial
theorem mut_T (kvs : List ((Int × Int × Int) × V)) : Mut (some (kdT.ho kvs)) := trivial
theorem mut_S (kvs : List (Str × V)) : Mut (some (kdS.ho kvs)) := trivial
section
variable {κ α : Type} [DecidableEq κ] {KD : KeyD κ} {T : Ty α} {e1 e2 : Expr} {m : Out (List (κ × α))} {mk : Out κ} {pos : Pos}
theorem di_get {K : PySem.W.Frag} {F : Hp} {v : V} {a : List (κ × α)} (h : (tDi KD T).rel K F v a) : ∃ p o kvs, v = .ref p ∧ F p = some (.frz o (KD.ho kvs)) ∧ kvs.length = a.length ∧ (∀ k, aget a k = none → aget kvs k = none) ∧ ∀ (k : κ) (b : α), aget a k = some b → ∃ w, aget kvs k = some w ∧ T.rel K F w b := by
  obtain ⟨p, o, vs, e, hp, r⟩ := h
  have hl : vs.length = a.length := by simpa using r.len
  refine ⟨p, o, _, e, hp, di_len hl, fun k h => (afind_none_zip (as := a.map Prod.snd) (bs := vs) (by simp) (by simp [hl]) (by rw [zip_self]; exact afind_of_none h)).2, fun k b h => ?_⟩
  obtain ⟨j, h1, h2⟩ := aget_find h
  obtain ⟨w, hw, rw'⟩ := r.get (show (a.map Prod.snd)[j]? = some b by rw [List.getElem?_map, h2]; rfl)
  exact ⟨w, (aget_zip (ks := a.map Prod.fst) (as := a.map Prod.snd) (bs := vs) (by simp) (by simp [hl]) (by rw [zip_self]; exact h1)).2 w hw, rw'⟩
/-- d[k] -/
theorem we_fdget (C : XC X N sc k E) (h1 : WE X E B Γ e1 (tDi KD T).rl m) (h2 : WE X E B Γ e2 KD.T.rl mk) (hs : NoSl e2 := by intro _ _; rfl) : WE X E B Γ (.Subscript e1 e2 pos) T.rl (m >>= fun a => mk >>= fun i => agetO a i) := fun σ F H ω Q en q => by
  refine ⟨_, pe_dget (hu1 C) pe_s pe_s hs, ?_⟩
  refine h1 σ F H ω _ en (q.bind.imp fun a q v F1 H1 s1 r1 => ?_)
  refine h2 σ F1 H1 ω _ (en.stp s1) (q.bind.imp fun i q y F2 H2 s2 ry => ?_)
  obtain ⟨p, o, kvs, e, hp, _, _, hg⟩ := di_get ((tDi KD T).mono s2.ff r1)
  unfold agetO at q
  cases hq : aget a i with
  | none => rw [hq] at q; exact q.elim
  | some b =>
    rw [hq] at q
    obtain ⟨w, hw, rw'⟩ := hg i b hq
    exact ⟨p, w, e, by rw [← hw]; exact KD.get kvs s2.fh ry (.inr ⟨o, s2.fh _ _ hp⟩), q w F2 H2 (s1.trans s2) rw'⟩
theorem wt_fdin (C : XC X N sc k E) (h1 : WE X E B Γ e2 KD.T.rl mk) (h2 : WE X E B Γ e1 (tDi KD T).rl m) (hm : behindInMarks .In e1 = false := by with_unfolding_all rfl) : WT X E B Γ (.Compare e2 [.In] [e1] pos) (mk >>= fun i => m >>= fun a => pure (aget a i).isSome) := fun σ F H ω Q en q => by
  refine ⟨_, pt_cmp (pc_din (hu1 C) pe_s pe_s) hm, ?_⟩
  refine h1 σ F H ω _ en (q.bind.imp fun i q y F1 H1 s1 ry => ?_)
  refine h2 σ F1 H1 ω _ (en.stp s1) (q.bind.imp fun a q v F2 H2 s2 r2 => ?_)
  obtain ⟨p, o, kvs, e, hp, _, hn, hg⟩ := di_get r2
  refine ⟨p, aget kvs i, e, KD.get kvs s2.fh (KD.T.mono s2.ff ry) (.inr ⟨o, s2.fh _ _ hp⟩), ?_⟩
  have : (aget kvs i).isSome = (aget a i).isSome := by
    cases hq : aget a i with
    | none => rw [hn i hq] <;> rfl
    | some b =>
      obtain ⟨w, hw, _⟩ := hg i b hq
      rw [hw]; rfl
  rw [this]
  exact ⟨_, rfl, q F2 H2 (s1.trans s2)⟩
end
def LenD (H : Hp) : Prop := ∀ p (kvs : List (Key × V)), Rd H p (.dK kvs) → kvs.length ≤ sizeLine
theorem pe_lenDQ {e : Expr} {t : TE} (h : PE X e t) : PE X e (fun σ H Q => t σ H fun v H' => LenD H' → Q v H') := ⟨fun pins s σ H Q I q =>
  thn (h.run pins s σ H _ I q) fun u s' ⟨v, H', I', r, q'⟩ => ⟨v, H', I', r, q' fun p kvs h => (dk_rd I'.hok h).1⟩⟩
/-- for k in d, ints -/
theorem wi_keys {α : Type} {T : Ty α} {tg e : Expr} {m : Out (List (Int × α))} (h : WE X E B Γ e (tDi kdI T).rl m) : WI X E B Γ tg e tInt (m >>= fun a => pure (a.map Prod.fst)) := fun σ F H ω R en q => by
  refine ⟨_, pi_keys (pe_lenDQ pe_s), ?_⟩
  refine h σ F H ω _ en (q.bind.imp fun a q v F1 H1 s1 r hl => ?_)
  obtain ⟨p, o, vs, e, hp, r⟩ := r
  have hv : vs.length = a.length := by simpa using r.len
  let kvs : List (Key × V) := ((a.map Prod.fst).zip vs).map fun x => (ki x.1, x.2)
  have hk : kvs.length = a.length := by simp [kvs, hv]
  refine ⟨p, o, e, .inl ⟨kvs, s1.fh _ _ hp, ?_⟩⟩
  have getk : ∀ (i : Nat) (kk : Key) (w : V), kvs[i]? = some (kk, w) → ∃ x : Int × α, a[i]? = some x ∧ kk = ki x.1 := fun i kk w hw => by
    simp only [kvs, List.getElem?_map] at hw
    cases hz : ((a.map Prod.fst).zip vs)[i]? with
    | none => rw [hz] at hw; cases hw
    | some z =>
      rw [hz] at hw
      cases hw
      have h1 := (List.getElem?_zip_eq_some.mp hz).1
      rw [List.getElem?_map] at h1
      cases hx : a[i]? with
      | none => rw [hx] at h1; cases h1
      | some x =>
        rw [hx] at h1
        exact ⟨x, rfl, congrArg ki (Option.some.inj h1).symm⟩
  refine q _ F1 H1 s1 ⟨fun i F H hi sf sh _ _ => ⟨sh _ _ (sf _ _ hp), by rw [hk]; simpa using hi⟩, fun F H sf sh _ _ => ⟨sh _ _ (sf _ _ hp), by rw [hk]; simp⟩, fun i F H x H' hi sf sh _ _ y => ?_⟩ ?_
  · obtain ⟨e2, kk, w, hw, hx⟩ := y
    subst e2
    obtain ⟨z, hz, ek⟩ := getk i kk w hw
    subst ek
    exact ⟨F, z.1, Stp.refl sh, by rw [List.getElem?_map, hz]; rfl, hx⟩
  · have := hl p kvs (.inr ⟨o, s1.fh _ _ hp⟩)
    rw [hk] at this
    simpa using this

/-! ### a, b = e, f -/
section
variable {γ : Type} {D : γ → SOut} {b : List Stmt} {bs : List (List Stmt)} {x y z : Str} {px py pz pt pt2 pos : Pos} {e1 e2 e3 : Expr} {α β δ : Type} {T : Ty α} {U : Ty β} {W : Ty δ} {m1 : Out α} {m2 : Out β} {m3 : Out δ} {kt k2 : Nat}
theorem ws_par2 (C : XC X N sc k E) (i j : Nat) {f : α → β → Out γ} (h1 : WE X E B Γ e1 T.rl m1) (h2 : WE X E B Γ e2 U.rl m2) (hr : ∀ a b', WS X E B ((Γ.set i (iS T a)).set j (iS U b')) (b :: bs) (f a b') D) (hi : N[i]? = some x := by rfl) (hj : N[j]? = some y := by rfl) (hij : i ≠ j := by decide)
    (hx : sc.sc.names.lookup x = some .local := by rfl) (hy : sc.sc.names.lookup y = some .local := by rfl) (s1 : starEach (e1 :: e2 :: []) X.env = (false, eval e1 X.env) :: starEach (e2 :: []) X.env := by rfl) (s2 : starEach (e2 :: []) X.env = (false, eval e2 X.env) :: starEach [] X.env := by rfl)
    (hw : ∀ env : Env, env.scope = sc.sc → swappedStores [.Tuple [.Name x px, .Name y py] kt pt] (.Tuple [e1, e2] k2 pt2) env = pure (some [x, y]) := by intro env he; cases env; cases he; first | rfl | kernel_rfl) (hs : swapsWithSole [.Tuple [.Name x px, .Name y py] kt pt] (.Tuple [e1, e2] k2 pt2) pos.line X.env = pure false := by rfl) :
    WS X E B Γ ((.Assign [.Tuple [.Name x px, .Name y py] kt pt] (.Tuple [e1, e2] k2 pt2) pos :: b) :: bs) (m1 >>= fun a => m2 >>= fun b => f a b) D := fun σ F H ω En en q => by
  refine sK_cons ⟨_, ps_par C.calm (by rw [C.nm]; exact C.nd) (by rw [C.nm]; exact hi) (by rw [C.nm]; exact hj) hij (by rw [C.scp]; exact hx) (by rw [C.scp]; exact hy) (pa_cons pe_s (pa_cons pe_s pa_nil s2) s1) (hw _ C.scp) hs, ?_⟩
  refine h1 σ F H ω _ en (q.bind.imp fun a q v F1 H1 s1 r1 => ?_)
  refine h2 σ F1 H1 ω _ (en.stp s1) (q.bind.imp fun b q w F2 H2 s2 r2 => ⟨v, w, rfl, ?_⟩)
  have e1 := env_set (i := i) ((en.stp s1).stp s2) (v := v) (s := iS T a) fun S => ⟨v, rfl, T.mono s2.ff r1⟩
  have e2 := env_set (i := j) e1 (v := w) (s := iS U b) fun S => ⟨w, rfl, r2⟩
  exact hr a b _ F2 H2 _ En e2 (q.imp fun b z => EndOk.up z (s1.ff.trans s2.ff))
theorem ws_par3 (C : XC X N sc k E) (i j l : Nat) {f : α → β → δ → Out γ} (h1 : WE X E B Γ e1 T.rl m1) (h2 : WE X E B Γ e2 U.rl m2) (h3 : WE X E B Γ e3 W.rl m3) (hr : ∀ a b' c, WS X E B (((Γ.set i (iS T a)).set j (iS U b')).set l (iS W c)) (b :: bs) (f a b' c) D) (hi : N[i]? = some x := by rfl) (hj : N[j]? = some y := by rfl) (hl : N[l]? = some z := by rfl)
    (hij : i ≠ j := by decide) (hil : i ≠ l := by decide) (hjl : j ≠ l := by decide) (hx : sc.sc.names.lookup x = some .local := by rfl) (hy : sc.sc.names.lookup y = some .local := by rfl) (hz : sc.sc.names.lookup z = some .local := by rfl)
    (s1 : starEach (e1 :: e2 :: e3 :: []) X.env = (false, eval e1 X.env) :: starEach (e2 :: e3 :: []) X.env := by rfl) (s2 : starEach (e2 :: e3 :: []) X.env = (false, eval e2 X.env) :: starEach (e3 :: []) X.env := by rfl) (s3 : starEach (e3 :: []) X.env = (false, eval e3 X.env) :: starEach [] X.env := by rfl)
    (hw : ∀ env : Env, env.scope = sc.sc → swappedStores [.Tuple [.Name x px, .Name y py, .Name z pz] kt pt] (.Tuple [e1, e2, e3] k2 pt2) env = pure (some [x, y, z]) := by intro env he; cases env; cases he; first | rfl | kernel_rfl)
    (hs : swapsWithSole [.Tuple [.Name x px, .Name y py, .Name z pz] kt pt] (.Tuple [e1, e2, e3] k2 pt2) pos.line X.env = pure false := by rfl) :
    WS X E B Γ ((.Assign [.Tuple [.Name x px, .Name y py, .Name z pz] kt pt] (.Tuple [e1, e2, e3] k2 pt2) pos :: b) :: bs) (m1 >>= fun a => m2 >>= fun b => m3 >>= fun c => f a b c) D := fun σ F H ω En en q => by
  refine sK_cons ⟨_, ps_par3 C.calm (by rw [C.nm]; exact C.nd) (by rw [C.nm]; exact hi) (by rw [C.nm]; exact hj) (by rw [C.nm]; exact hl) hij hil hjl (by rw [C.scp]; exact hx) (by rw [C.scp]; exact hy) (by rw [C.scp]; exact hz) (pa_cons pe_s (pa_cons pe_s (pa_cons pe_s pa_nil s3) s2) s1) (hw _ C.scp) hs, ?_⟩
  refine h1 σ F H ω _ en (q.bind.imp fun a q v F1 H1 s1 r1 => ?_)
  refine h2 σ F1 H1 ω _ (en.stp s1) (q.bind.imp fun b q w F2 H2 s2 r2 => ?_)
  refine h3 σ F2 H2 ω _ ((en.stp s1).stp s2) (q.bind.imp fun c q u F3 H3 s3 r3 => ⟨v, w, u, rfl, ?_⟩)
  have e1 := env_set (i := i) (((en.stp s1).stp s2).stp s3) (v := v) (s := iS T a) fun S => ⟨v, rfl, T.mono (s2.ff.trans s3.ff) r1⟩
  have e2 := env_set (i := j) e1 (v := w) (s := iS U b) fun S => ⟨w, rfl, U.mono s3.ff r2⟩
  have e3 := env_set (i := l) e2 (v := u) (s := iS W c) fun S => ⟨u, rfl, r3⟩
  exact hr a b c _ F3 H3 _ En e3 (q.imp fun b z => EndOk.up z ((s1.ff.trans s2.ff).trans s3.ff))
end

/-! ### op= -/
section
variable {γ : Type} {D : γ → SOut} {b : List Stmt} {bs : List (List Stmt)} {x : Str} {p pos : Pos} {e : Expr} {me : Out Int} {f : Int → Out γ} {a : Int}
theorem ws_augN (C : XC X N sc k E) (i : Nat) {op : Operator} {g : Int → Int → Int} (ho : PIp X op (ipI g)) (h : WE X E B Γ e tInt.rl me) (hr : ∀ c, WS X E B (Γ.set i (iS tInt c)) (b :: bs) (f c) D) (hΓ : Γ[i]? = some (iS tInt a) := by rfl) (hN : N[i]? = some x := by rfl) (hl : L2.Loc sc.raw x := by first | exact Or.inl rfl | exact Or.inr rfl) :
    WS X E B Γ ((.AugAssign (.Name x p) op e pos :: b) :: bs) ((me >>= fun y => pure (g a y)) >>= f) D := fun σ F H ω En en q => by
  refine sK_cons ⟨_, ps_aug (by rw [C.nm]; exact C.nd) (by rw [C.nm]; exact hN) (C.loc _ hl).1 pe_s ho (C.loc _ hl).2, ?_⟩
  obtain ⟨v, hv, r⟩ := en.slot i _ hΓ
  refine ⟨v, join_some hv, h σ F H ω _ en (q.bind.bind.imp fun y q w F1 H1 s1 r1 => ⟨a, y, r, r1, ?_⟩)⟩
  exact hr (g a y) _ F1 H1 _ En (env_set (en.stp s1) fun S => ⟨_, rfl, rfl⟩) (Post.imp q fun b z => EndOk.up z s1.ff)
theorem ws_augAdd (C : XC X N sc k E) (i : Nat) {m' : Out Int} (h : WE X E B Γ e tInt.rl me) (hm : (me >>= fun y => pure (a + y)) = m') (hr : ∀ c, WS X E B (Γ.set i (iS tInt c)) (b :: bs) (f c) D) (hΓ : Γ[i]? = some (iS tInt a) := by rfl) (hN : N[i]? = some x := by rfl) (hl : L2.Loc sc.raw x := by first | exact Or.inl rfl | exact Or.inr rfl) :
    WS X E B Γ ((.AugAssign (.Name x p) .Add e pos :: b) :: bs) (m' >>= f) D := by
  subst hm
  exact ws_augN C i ip_add h hr hΓ hN hl
theorem ws_augSub (C : XC X N sc k E) (i : Nat) {m' : Out Int} (h : WE X E B Γ e tInt.rl me) (hm : (me >>= fun y => pure (a - y)) = m') (hr : ∀ c, WS X E B (Γ.set i (iS tInt c)) (b :: bs) (f c) D) (hΓ : Γ[i]? = some (iS tInt a) := by rfl) (hN : N[i]? = some x := by rfl) (hl : L2.Loc sc.raw x := by first | exact Or.inl rfl | exact Or.inr rfl) :
    WS X E B Γ ((.AugAssign (.Name x p) .Sub e pos :: b) :: bs) (m' >>= f) D := by
  subst hm
  exact ws_augN C i ip_sub h hr hΓ hN hl
end

/-! ### pops -/
/-- the last thing, the thing at i, and the rest -/
def popO {α : Type} (xs : List α) : Out (α × List α) := match xs.getLast? with
  | some x => pure (x, xs.dropLast)
  | none => .stuck
def popAtO {α : Type} (xs : List α) (i : Int) : Out (α × List α) := match ixN xs.length i with
  | none => .stuck
  | some j => match xs[j]? with
    | some x => if -(2 ^ 63) ≤ i ∧ i < 2 ^ 63 then pure (x, xs.eraseIdx j) else .stuck
    | none => .stuck
theorem ixN_seq0 {n : Nat} {i : Int} {j : Nat} (h : ixN n i = some j) : seqIndex? i n = some j := (ixN_seq h).1
section
variable {γ : Type} {D : γ → SOut} {b : List Stmt} {bs : List (List Stmt)} {x y : Str} {p p1 p2 p3 pos : Pos} {e : Expr} {α : Type} {T : Ty α} {xs : List α} {mi : Out Int} {f : α × List α → Out γ}
/-- x = y.pop() -/
theorem ws_pop0 (C : XC X N sc k E) (i j : Nat) (hr : ∀ r : α × List α, WS X E B ((Γ.set i (.on _ (oLst T) r.2)).set j (iS T r.1)) (b :: bs) (f r) D) (hΓ : Γ[i]? = some (.on _ (oLst T) xs) := by rfl) (hN : N[i]? = some y := by rfl) (hM : N[j]? = some x := by rfl) (hv : Vis sc.sc y := by first | exact Or.inl rfl | exact Or.inr (Or.inl rfl) | exact Or.inr (Or.inr rfl))
    (hl : L2.Loc sc.raw x := by first | exact Or.inl rfl | exact Or.inr rfl) (hd : (y == ("__debug__" : Str)) = false := by decide) (hcd : (y == ("__classdict__" : Str)) = false := by decide) (hbase : attributeBase (.Name y p1) "pop" X.env (eval (.Name y p1) X.env) = eval (.Name y p1) X.env := by rfl)
    (hline : (p2.endLine == p3.line) = true := by rfl) (hs : swapsWith (.Call (.Attribute (.Name y p1) "pop" p2) [] [] p3) (some (.Name x p)) pos.line X.env = pure false := by rfl) :
    WS X E B Γ ((.Assign [.Name x p] (.Call (.Attribute (.Name y p1) "pop" p2) [] [] p3) pos :: b) :: bs) (popO xs >>= f) D := fun σ F H ω En en q => by
  refine sK_cons ⟨_, ps_set (by rw [C.nm]; exact C.nd) (by rw [C.nm]; exact hM) (C.loc _ hl).1 (pe_bm0 PySem.F.plainAttrs_list PySem.F.slot_list_pop PySem.F.type_list_pop mt_pop (pv_ C hN hv hd hcd) hbase hline) hs (C.loc _ hl).2, ?_⟩
  obtain ⟨l, vs, hσ, hl', hH, r⟩ := own_lst en hΓ
  unfold popO at q
  cases hx : xs.getLast? with
  | none => rw [hx] at q; exact q.elim
  | some z =>
    rw [hx] at q
    have hz : xs[xs.length - 1]? = some z := by rw [← List.getLast?_eq_getElem?]; exact hx
    obtain ⟨w, hw, rw'⟩ := r.get hz
    refine ⟨_, hσ, .inl ⟨rfl, _, SqL.of hH⟩, l, vs, w, rfl, rfl, hH, by rw [r.len]; exact hw, ?_⟩
    have hdl : Fa2 (T.rel X.K F) vs.dropLast xs.dropLast := by
      rw [List.dropLast_eq_take, List.dropLast_eq_take, r.len]
      exact r.take _
    have e1 := env_lst en hΓ hσ hl' hdl
    exact hr _ _ F _ _ En (env_set (i := j) e1 (v := w) (s := iS T z) fun S => ⟨w, rfl, rw'⟩) q
/-- x = y.pop(e) -/
theorem ws_popI (C : XC X N sc k E) (i j : Nat) (hi : WE X E B Γ e tInt.rl mi) (hr : ∀ r : α × List α, WS X E B ((Γ.set i (.on _ (oLst T) r.2)).set j (iS T r.1)) (b :: bs) (f r) D) (hΓ : Γ[i]? = some (.on _ (oLst T) xs) := by rfl) (hN : N[i]? = some y := by rfl) (hM : N[j]? = some x := by rfl) (hv : Vis sc.sc y := by first | exact Or.inl rfl | exact Or.inr (Or.inl rfl) | exact Or.inr (Or.inr rfl))
    (hl : L2.Loc sc.raw x := by first | exact Or.inl rfl | exact Or.inr rfl) (hd : (y == ("__debug__" : Str)) = false := by decide) (hcd : (y == ("__classdict__" : Str)) = false := by decide) (hbase : attributeBase (.Name y p1) "pop" X.env (eval (.Name y p1) X.env) = eval (.Name y p1) X.env := by rfl)
    (hfew : ((backTo p3 (starEach (e :: []) X.env)).all (fun x => !x.1) && (backToKw p3 (keywordEach [] X.env)).all (fun x => x.1.isSome) && decide ((e :: []).length + ([] : List Keyword).length + (if ([] : List Keyword).isEmpty then 0 else 1) < 30)) = true := by rfl)
    (hline : (p2.endLine == p3.line) = true := by rfl) (hst : starEach (e :: []) X.env = (false, eval e X.env) :: starEach [] X.env := by rfl) (hs : swapsWith (.Call (.Attribute (.Name y p1) "pop" p2) [e] [] p3) (some (.Name x p)) pos.line X.env = pure false := by rfl) :
    WS X E B Γ ((.Assign [.Name x p] (.Call (.Attribute (.Name y p1) "pop" p2) [e] [] p3) pos :: b) :: bs) (mi >>= fun n => popAtO xs n >>= f) D := fun σ F H ω En en q => by
  refine sK_cons ⟨_, ps_set (by rw [C.nm]; exact C.nd) (by rw [C.nm]; exact hM) (C.loc _ hl).1 (pe_bm PySem.F.plainAttrs_list PySem.F.slot_list_pop PySem.F.type_list_pop mt_popAt (pv_ C hN hv hd hcd) (pa_cons pe_s pa_nil hst) hbase hfew hline hst) hs (C.loc _ hl).2, ?_⟩
  obtain ⟨l, vs, hσ, hl', hH, r⟩ := own_lst en hΓ
  refine ⟨_, hσ, .inl ⟨rfl, _, SqL.of hH⟩, hi σ F H ω _ en (q.bind.imp fun n q v F1 H1 s1 rn => ?_)⟩
  have en1 := en.stp s1
  have r1 : Fa2 (T.rel X.K F1) vs xs := r.imp fun _ _ => T.mono s1.ff
  unfold popAtO at q
  cases hx : ixN xs.length n with
  | none => rw [hx] at q; exact q.elim
  | some c =>
    simp only [hx] at q
    cases hz : xs[c]? with
    | none => rw [hz] at q; exact q.elim
    | some z =>
      rw [hz] at q
      by_cases hb : -(2 ^ 63) ≤ n ∧ n < 2 ^ 63
      · simp only [if_pos hb] at q
        obtain ⟨w, hw, rw'⟩ := r1.get hz
        refine ⟨l, vs, n, c, w, rfl, by rw [show v = .int n from rn], s1.hh _ _ hH, hb.1, hb.2, by rw [r.len]; exact ixN_seq0 hx, hw, ?_⟩
        have e1 := env_lst en1 hΓ hσ hl' (r1.erase c)
        exact hr _ _ F1 _ _ En (env_set (i := j) e1 (v := w) (s := iS T z) fun S => ⟨w, rfl, rw'⟩) (Post.imp q fun b z => EndOk.up z s1.ff)
      · simp only [if_neg hb] at q
        exact q.elim
/-- x.append(y.pop(e)) -/
theorem ws_appPop (C : XC X N sc k E) (j i : Nat) {ys : List α} {p4 p5 p6 : Pos} {f : α × List α → List α → Out γ} (hi : WE X E B Γ e tInt.rl mi) (hr : ∀ (r : α × List α) (l : List α), WS X E B ((Γ.set i (.on _ (oLst T) r.2)).set j (.on _ (oLst T) l)) (b :: bs) (f r l) D) (hΓ : Γ[i]? = some (.on _ (oLst T) xs) := by rfl) (hΓj : Γ[j]? = some (.on _ (oLst T) ys) := by rfl) (hij : i ≠ j := by decide)
    (hN : N[i]? = some y := by rfl) (hM : N[j]? = some x := by rfl) (hv : Vis sc.sc y := by first | exact Or.inl rfl | exact Or.inr (Or.inl rfl) | exact Or.inr (Or.inr rfl)) (hvx : Vis sc.sc x := by first | exact Or.inl rfl | exact Or.inr (Or.inl rfl) | exact Or.inr (Or.inr rfl))
    (hd : (y == ("__debug__" : Str)) = false := by decide) (hcd : (y == ("__classdict__" : Str)) = false := by decide) (hdx : (x == ("__debug__" : Str)) = false := by decide) (hcdx : (x == ("__classdict__" : Str)) = false := by decide)
    (hbase : attributeBase (.Name y p1) "pop" X.env (eval (.Name y p1) X.env) = eval (.Name y p1) X.env := by rfl)
    (hfew : ((backTo p3 (starEach (e :: []) X.env)).all (fun x => !x.1) && (backToKw p3 (keywordEach [] X.env)).all (fun x => x.1.isSome) && decide ((e :: []).length + ([] : List Keyword).length + (if ([] : List Keyword).isEmpty then 0 else 1) < 30)) = true := by rfl)
    (hline : (p2.endLine == p3.line) = true := by rfl) (hst : starEach (e :: []) X.env = (false, eval e X.env) :: starEach [] X.env := by rfl)
    (hbase2 : attributeBase (.Name x p4) "append" X.env (eval (.Name x p4) X.env) = eval (.Name x p4) X.env := by rfl)
    (hfew2 : ((backTo p6 (starEach ((.Call (.Attribute (.Name y p1) "pop" p2) [e] [] p3) :: []) X.env)).all (fun x => !x.1) && (backToKw p6 (keywordEach [] X.env)).all (fun x => x.1.isSome) && decide (((.Call (.Attribute (.Name y p1) "pop" p2) [e] [] p3) :: [] : List Expr).length + ([] : List Keyword).length + (if ([] : List Keyword).isEmpty then 0 else 1) < 30)) = true := by rfl)
    (hline2 : (p5.endLine == p6.line) = true := by rfl) (hst2 : starEach ((.Call (.Attribute (.Name y p1) "pop" p2) [e] [] p3) :: []) X.env = (false, eval (.Call (.Attribute (.Name y p1) "pop" p2) [e] [] p3) X.env) :: starEach [] X.env := by rfl)
    (hsw : swapsWith (.Call (.Attribute (.Name x p4) "append" p5) [.Call (.Attribute (.Name y p1) "pop" p2) [e] [] p3] [] p6) none pos.line X.env = pure false := by rfl) :
    WS X E B Γ ((.Expr (.Call (.Attribute (.Name x p4) "append" p5) [.Call (.Attribute (.Name y p1) "pop" p2) [e] [] p3] [] p6) pos :: b) :: bs) (mi >>= fun n => popAtO xs n >>= fun r => appO ys r.1 >>= fun l => f r l) D := fun σ F H ω En en q => by
  refine sK_cons ⟨_, ps_expr (pe_bm PySem.F.plainAttrs_list PySem.F.slot_list_append PySem.F.type_list_append mt_append (pv_ C hM hvx hdx hcdx) (pa_cons (pe_bm PySem.F.plainAttrs_list PySem.F.slot_list_pop PySem.F.type_list_pop mt_popAt (pv_ C hN hv hd hcd) (pa_cons pe_s pa_nil hst) hbase hfew hline hst) pa_nil hst2) hbase2 hfew2 hline2 hst2) hsw, ?_⟩
  obtain ⟨l, vs, hσ, hl', hH, r⟩ := own_lst en hΓ
  obtain ⟨lj, vj, hσj, hlj, hHj, rj⟩ := own_lst en hΓj
  refine ⟨_, hσj, .inl ⟨rfl, _, SqL.of hHj⟩, _, hσ, .inl ⟨rfl, _, SqL.of hH⟩, hi σ F H ω _ en (q.bind.imp fun n q v F1 H1 s1 rn => ?_)⟩
  have en1 := en.stp s1
  have r1 : Fa2 (T.rel X.K F1) vs xs := r.imp fun _ _ => T.mono s1.ff
  unfold popAtO at q
  cases hx : ixN xs.length n with
  | none => rw [hx] at q; exact q.elim
  | some c =>
    simp only [hx] at q
    cases hz : xs[c]? with
    | none => rw [hz] at q; exact q.elim
    | some z =>
      rw [hz] at q
      by_cases hb : -(2 ^ 63) ≤ n ∧ n < 2 ^ 63
      · simp only [if_pos hb] at q
        obtain ⟨w, hw, rw'⟩ := r1.get hz
        refine ⟨l, vs, n, c, w, rfl, by rw [show v = .int n from rn], s1.hh _ _ hH, hb.1, hb.2, by rw [r.len]; exact ixN_seq0 hx, hw, ?_⟩
        have e1 := env_lst en1 hΓ hσ hl' (r1.erase c)
        have hne : lj ≠ l := fun z => by
          rw [z, hl'] at hlj
          exact hij (Option.some.inj hlj)
        have hΓj2 : (Γ.set i (.on _ (oLst T) (xs.eraseIdx c)))[j]? = some (.on _ (oLst T) ys) := by rw [List.getElem?_set_ne hij]; exact hΓj
        have q : Post (appO ys z >>= fun l => f (z, xs.eraseIdx c) l) (fun b => EndOk X.K B F En (D b)) (RB X.K B E) := q
        unfold appO at q
        by_cases hc : ys.length < 16777216
        · rw [if_pos hc] at q
          refine ⟨lj, vj, w, rfl, rfl, by rw [upd_ne hne]; exact s1.hh _ _ hHj, by rw [rj.len, sizeLine_eq]; exact hc, ?_⟩
          have e2 := env_lst e1 hΓj2 hσj hlj (((rj.imp fun _ _ => T.mono s1.ff) : Fa2 (T.rel X.K F1) vj ys).app (.cons rw' .nil))
          exact hr (z, xs.eraseIdx c) (ys ++ [z]) _ F1 _ _ En e2 (Post.imp q fun b z => EndOk.up z s1.ff)
        · rw [if_neg hc] at q
          exact q.elim
      · simp only [if_neg hb] at q
        exact q.elim
end
end SL

set_option Elab.async false
set_option linter.all false
set_option maxRecDepth 100000
set_option maxHeartbeats 4000000
/-! SLy: dict comprehensions, list(d.values()), zip. -/
namespace SL
open PySem PySem.Spec PyProof.Rows L2
variable {X : Cx} {N : List Str} {sc : Scp} {k : Nat} {E : XK} {B : Bs} {Γ : List Slot}
/-! ### list(d.values()) of a fixed dict -/
def tListVals (te : TE) : TE := fun σ H Q => te σ H fun x H1 => ∃ d o kvs, x = .ref d ∧ H1 d = some (.frz o (.dK kvs)) ∧ ∀ p, H1 p = none → Q (.ref p) (upd H1 p (.lst (kvs.map (·.2))))
theorem pe_listVals {e : Expr} {te : TE} {p apos cpos pos : Pos} (hc : X.calm = true) (he : PE X e te) (hg : Gl X "list") (hm : X.mg "list" = none) (hbase : attributeBase e "values" X.env (eval e X.env) = eval e X.env := by rfl) (hline : (apos.endLine == cpos.line) = true := by rfl)
    (hs : starEach [.Call (.Attribute e "values" apos) [] [] cpos] X.env = (false, eval (.Call (.Attribute e "values" apos) [] [] cpos) X.env) :: starEach [] X.env := by rfl) :
    PE X (.Call (.Name "list" p) [.Call (.Attribute e "values" apos) [] [] cpos] [] pos) (tListVals te) := by
  refine ⟨fun pins s σ H Q I hq => ?_⟩
  refine wpAny_Call_Name_kw (ld_blt I hg hm boot_list ?_)
  refine PyProof.Rows.callWith_type1 ?_ hs rfl
  rw [hs]
  show wpAny _ _ (spliced ((false, eval (.Call (.Attribute e "values" apos) [] [] cpos) X.env) :: backTo pos (starEach [] X.env))) _ _ s
  refine Calls.spliced_cons ?_
  refine wpAny_Call_method (T := "dict") (id := "dict.values") hbase rfl hline F.plainAttrs_dict F.slot_dict_values F.type_dict_values (thn (he.run pins s σ H _ I hq) fun u s1 ⟨x, H1, I1, rx, d, o, kvs, ex, hd, q⟩ => ?_)
  subst ex
  obtain rfl : u = Value.ref d := rx
  obtain ⟨hs0, hgd, hx, es, ep, vs, hdt, hsz, kv, hm2⟩ := I1.frzK hd
  have hz : kvs.length ≤ sizeLine := (I1.hok d _ hd).2.1
  have hl : kvs.length = vs.length := Paired.length kv
  have I2 : Inv X pins σ H1 { s1 with heap := s1.heap.push { cls := .type "dict_values", data := .fields #[.ref d] } } := I1.kept (t' := s1.toks) fun b ob q => Heap.get?_push_of_some _ q
  refine ⟨hm2.dictOf.typeIs, hm2.dictOf.mapOf.noDict, ?_⟩
  show wpAny _ _ (callWith cpos (.builtin "dict.values") [.ref d] [] []) _ X.xe s1
  refine method_meetsIn F.slot_dict_values F.entry_dict_values rfl (PySem.evalArgs_none ⟨rfl, hm2.dictOf.typeIs, F.args_dict_values_1 _, _, meets_dict_values (mixKind X.prog X.w) d hs0, ⟨vs, hm2.dictOf⟩, ?_⟩)
  refine Calls.spliced_nil ?_
  refine PySem.W.kdl_call (PySem.W.kdl_values (knd := mixKind X.prog X.w) (d := d) (kvs := vs) (ep := ep)) (I1.ok.hd hc) ⟨⟨_, Heap.get?_push_size _ rfl, rfl, rfl⟩, hm2.push _⟩ (by rw [← hl]; exact hz) fun h' tk acc' c' hkeep hS hacc => ?_
  refine ⟨.ref _, upd H1 _ (.lst (kvs.map (·.2))), I2.laid hkeep (Nat.le_refl _) (show ObjOk X.prog X.w _ _ _ (.lst (kvs.map (·.2))) from ⟨?_, acc'.toList, c', ?_, ?_⟩), rfl, q _ (I2.hok.fresh (Nat.le_refl _))⟩
  · rw [List.length_map]; exact hz
  · have el : acc'.toList.length = acc'.size := by simp
    refine vals_of_at (by rw [List.length_map, el, hacc.1, hl]) fun j x w h1 h2 => ?_
    obtain ⟨k, hk⟩ := hacc.2 j w (by rw [← Array.getElem?_toList]; exact h2)
    obtain ⟨x', h3, h4⟩ := KV.at' kv hk
    rw [List.getElem?_map, h3] at h1
    cases h1
    exact h4
  · rw [Array.toArray_toList]; exact hS
theorem wo_listVals {α : Type} {T : Ty α} {e : Expr} {m : Out (List (Int × α))} {p apos cpos pos : Pos} (C : XC X N sc k E) (Z : Fre X.mg) (h : WE X E B Γ e (tDi kdI T).rl m) (hg : GlN sc "list" := by rfl) (hbase : attributeBase e "values" X.env (eval e X.env) = eval e X.env := by rfl) (hline : (apos.endLine == cpos.line) = true := by rfl)
    (hs : starEach [.Call (.Attribute e "values" apos) [] [] cpos] X.env = (false, eval (.Call (.Attribute e "values" apos) [] [] cpos) X.env) :: starEach [] X.env := by rfl) :
    WO X E B Γ (.Call (.Name "list" p) [.Call (.Attribute e "values" apos) [] [] cpos] [] pos) (oLst T) (m >>= fun a => pure (a.map Prod.snd)) := fun σ F H ω Q en q => by
  refine ⟨_, pe_listVals C.calm pe_s (gl_ C hg) Z.list hbase hline hs, ?_⟩
  refine h σ F H ω _ en (q.bind.imp fun a q v F1 H1 s1 r => ?_)
  obtain ⟨d, o, vs, e1, hp, r⟩ := r
  refine ⟨d, o, _, e1, s1.fh _ _ hp, fun p hp2 => ?_⟩
  have hv : vs.length = a.length := by simpa using r.len
  have e2 : ((((a.map Prod.fst).zip vs).map fun x => (ki x.1, x.2)).map (·.2)) = vs := by
    rw [List.map_map]
    exact List.map_snd_zip (by simp [hv])
  rw [e2]
  have s2 : Stp F H F1 (upd H1 p (.lst vs)) := s1.trans (Stp.newH s1.fh hp2)
  refine q (.ref p) F1 _ (fun a => a = p) s2 (fun a e => by
    subst e
    exact ⟨s1.fh.free hp2, (by rw [upd_same]; exact fun z => nomatch z), s1.hh.free hp2⟩) ⟨p, vs, rfl, rfl, upd_same, r⟩
/-! ### zip -/
section
variable {elts : List Expr} {kk : Nat} {tpos p pos : Pos} {e e2 : Expr} {α β : Type} {T : Ty α} {U : Ty β} {m : Out (List α)} {m2 : Out (List β)}
theorem wi_zipL (C : XC X N sc k E) (Z : Fre X.mg) (h : WE X E B Γ e (tLst T).rl m) (h2 : WE X E B Γ e2 (tLst U).rl m2) (hg : GlN sc "zip" := by rfl) (hs : starEach [e, e2] X.env = (false, eval e X.env) :: starEach [e2] X.env := by rfl) (hs2 : starEach [e2] X.env = (false, eval e2 X.env) :: starEach [] X.env := by rfl) (hpl : (backTo pos (starEach [e2] X.env)).any (·.1) = false := by rfl) :
    WI X E B Γ (.Tuple elts kk tpos) (.Call (.Name "zip" p) [e, e2] [] pos) (tT2 T U) (m >>= fun a => m2 >>= fun b => pure (a.zip b)) := fun σ F H ω R en q => by
  refine ⟨_, RZ.pi_zipA (gl_ C hg) Z.zip (pa_cons (pe_lenQ pe_s) (pa_cons pe_s pa_nil hs2) hs) hs hpl, ?_⟩
  refine h σ F H ω _ en (q.bind.imp fun xs q v F1 H1 s1 ⟨a, vs, e, sq, r⟩ hl => ?_)
  refine h2 σ F1 H1 ω _ (en.stp s1) (q.bind.imp fun ys q v2 F2 H2 s2 ⟨b, ws, e2, sq2, r2⟩ => ?_)
  have sqa : SqL X.K H2 a vs := SqL.of (s2.fh _ _ (s2.ff _ _ sq))
  have sqb : SqL X.K H2 b ws := SqL.of (s2.fh _ _ sq2)
  refine ⟨a, b, vs, ws, by rw [e, e2], .inl ⟨sqa, sqb, q _ F2 H2 (s1.trans s2) ?_ ?_⟩⟩
  · refine ⟨fun i F H hi sf sh _ _ => ?_, fun F H sf sh _ _ => ?_, fun i F H x H' hi sf sh _ _ y => ?_⟩
    · have hi1 : i < vs.length := by rw [r.len]; simp at hi; omega
      have hi2 : i < ws.length := by rw [r2.len]; simp at hi; omega
      exact ⟨vs, ws, vs[i], ws[i], SqL.of (sh _ _ (sf _ _ (s2.ff _ _ sq))), SqL.of (sh _ _ (sf _ _ sq2)), List.getElem?_eq_getElem hi1, List.getElem?_eq_getElem hi2⟩
    · refine ⟨vs, ws, SqL.of (sh _ _ (sf _ _ (s2.ff _ _ sq))), SqL.of (sh _ _ (sf _ _ sq2)), ?_⟩
      rw [r.len, r2.len, List.length_zip]
      omega
    · obtain ⟨D, x1, y1, rfl, hD, rfl, hx, hy⟩ := y
      obtain ⟨a1, ha1, ra1⟩ := r.getV (hx vs (SqL.of (sh _ _ (sf _ _ (s2.ff _ _ sq)))))
      obtain ⟨b1, hb1, rb1⟩ := r2.getV (hy ws (SqL.of (sh _ _ (sf _ _ sq2))))
      obtain ⟨s3, r3⟩ := new_pair (T := T) (U := U) sh hD (T.mono (s2.ff.trans sf) ra1) (U.mono sf rb1)
      exact ⟨_, _, s3, by rw [List.getElem?_zip_eq_some]; exact ⟨ha1, hb1⟩, r3⟩
  · have := hl a vs (.inl (.inl (s1.fh _ _ sq)))
    rw [List.length_zip, ← r.len]
    omega
theorem wi_zipT (C : XC X N sc k E) (Z : Fre X.mg) (h : WE X E B Γ e (tTup T).rl m) (h2 : WE X E B Γ e2 (tTup U).rl m2) (hg : GlN sc "zip" := by rfl) (hs : starEach [e, e2] X.env = (false, eval e X.env) :: starEach [e2] X.env := by rfl) (hs2 : starEach [e2] X.env = (false, eval e2 X.env) :: starEach [] X.env := by rfl) (hpl : (backTo pos (starEach [e2] X.env)).any (·.1) = false := by rfl) :
    WI X E B Γ (.Tuple elts kk tpos) (.Call (.Name "zip" p) [e, e2] [] pos) (tT2 T U) (m >>= fun a => m2 >>= fun b => pure (a.zip b)) := fun σ F H ω R en q => by
  refine ⟨_, RZ.pi_zipA (gl_ C hg) Z.zip (pa_cons (pe_lenQ pe_s) (pa_cons pe_s pa_nil hs2) hs) hs hpl, ?_⟩
  refine h σ F H ω _ en (q.bind.imp fun xs q v F1 H1 s1 ⟨a, vs, e, sq, r⟩ hl => ?_)
  refine h2 σ F1 H1 ω _ (en.stp s1) (q.bind.imp fun ys q v2 F2 H2 s2 ⟨b, ws, e2, sq2, r2⟩ => ?_)
  have sqa : SqT X.K H2 a vs := seqT s2.fh (seqT s2.ff sq)
  have sqb : SqT X.K H2 b ws := seqT s2.fh sq2
  refine ⟨a, b, vs, ws, by rw [e, e2], .inr ⟨sqa, sqb, q _ F2 H2 (s1.trans s2) ?_ ?_⟩⟩
  · refine ⟨fun i F H hi sf sh _ _ => ?_, fun F H sf sh _ _ => ?_, fun i F H x H' hi sf sh _ _ y => ?_⟩
    · have hi1 : i < vs.length := by rw [r.len]; simp at hi; omega
      have hi2 : i < ws.length := by rw [r2.len]; simp at hi; omega
      exact ⟨vs, ws, vs[i], ws[i], seqT sh (seqT sf (seqT s2.ff sq)), seqT sh (seqT sf sq2), List.getElem?_eq_getElem hi1, List.getElem?_eq_getElem hi2⟩
    · refine ⟨vs, ws, seqT sh (seqT sf (seqT s2.ff sq)), seqT sh (seqT sf sq2), ?_⟩
      rw [r.len, r2.len, List.length_zip]
      omega
    · obtain ⟨D, x1, y1, rfl, hD, rfl, hx, hy⟩ := y
      obtain ⟨a1, ha1, ra1⟩ := r.getV (hx vs (seqT sh (seqT sf (seqT s2.ff sq))))
      obtain ⟨b1, hb1, rb1⟩ := r2.getV (hy ws (seqT sh (seqT sf sq2)))
      obtain ⟨s3, r3⟩ := new_pair (T := T) (U := U) sh hD (T.mono (s2.ff.trans sf) ra1) (U.mono sf rb1)
      exact ⟨_, _, s3, by rw [List.getElem?_zip_eq_some]; exact ⟨ha1, hb1⟩, r3⟩
  · have := sqT_len (seqT s1.fh sq) hl
    rw [List.length_zip, ← r.len]
    omega
end
/-! ### {k: v for ..}, keys ints, values new own things -/
def dcO {α κ β : Type} [DecidableEq κ] (mk : α → Out κ) (mv : α → Out β) : List α → List (κ × β) → Out (List (κ × β))
  | [], acc => pure acc
  | x :: xs, acc => match mk x with
    | .ok j => (match mv x with
      | .ok v => if acc.length < 16777216 then dcO mk mv xs (aput acc j v) else .stuck
      | _ => .stuck)
    | _ => .stuck
section
variable {tg iter kx vx : Expr} {scope : Scope} {own : List (Str × Nat)} {pos p : Pos} {α β : Type} {T : Ty α} {O : Own β} {mi : Out (List α)} {ix : List Nat} {g : α → List Slot → List Slot} {mk : α → Out Int} {mv : α → Out β}
theorem dcO_err {x : Err} : ∀ (xs : List α) (acc : List (Int × β)), dcO mk mv xs acc ≠ .err x := by
  intro xs
  induction xs with
  | nil => intro acc z; cases z
  | cons y ys ih =>
    intro acc z
    unfold dcO at z
    split at z
    · split at z
      · split at z
        · exact ih _ z
        · cases z
      · cases z
    · cases z
theorem dc_read (C : XC X N sc k E) (hit : WIs X E B Γ tg iter T mi) (hix : ∀ j ∈ ix, j ∈ own.map (·.2)) (hg : ∀ s H' Cc cl fp, WG (bx X scope s H' Cc cl fp) B tg T ix g)
    (hk : ∀ s H' Cc cl fp a, WE (bx X scope s H' Cc cl fp) E0 B (g a (wipeS Γ (own.map (·.2)))) kx tInt.rl (mk a)) (he : ∀ s H' Cc cl fp a, WO (bx X scope s H' Cc cl fp) E0 B (g a (wipeS Γ (own.map (·.2)))) vx O (mv a))
    {σ : L2.St} {F H : Hp} {ω : Ow} {Q : VK} (en : EnvOk X.K B Γ σ F H ω) (po : Post (mi >>= fun xs => dcO mk mv xs []) (fun bs => ∀ v F' H' S, Stp F H F' H' → (∀ p, S p → F' p = none ∧ H' p ≠ none ∧ H p = none) → (oDi kdI O).rel X.K F' H' S v bs → Q v H') (RB X.K B E)) :
    tDc (sI X tg iter) (uG X scope tg) (uT X scope []) (uE X scope kx) (uE X scope vx) (own.map (·.2)) σ H Q := by
  refine hit σ F H ω _ en (po.bind.imp fun xs q J F1 H1 s1 tw hl D hD => ?_)
  have hD0 : H D = none := s1.hh.free hD
  have hF1 : F1 D = none := s1.fh.free hD
  obtain ⟨bs, hb, q⟩ : ∃ bs, dcO mk mv xs [] = .ok bs ∧ ∀ v F' H' S, Stp F H F' H' → (∀ p, S p → F' p = none ∧ H' p ≠ none ∧ H p = none) → (oDi kdI O).rel X.K F' H' S v bs → Q v H' := by
    cases e : dcO mk mv xs [] with
    | ok bs => rw [e] at q; exact ⟨bs, rfl, q⟩
    | err x => exact absurd e (dcO_err xs [])
    | stuck => rw [e] at q; exact q.elim
  have enw := env_wipe (en.stp s1) (own.map (·.2))
  refine ⟨fun i mm H' => mm = xs.length - i ∧ i ≤ xs.length ∧ ∃ F' S acc, Stp F1 H1 F' H' ∧ (∀ p, S p → F' p = none ∧ H' p ≠ none ∧ H1 p = none) ∧ S D ∧ (oDi kdI O).rel X.K F' H' S (.ref D) acc ∧ dcO mk mv (xs.drop i) acc = .ok bs,
    ⟨xs.length, by simp, Nat.zero_le _, F1, (fun a => a = D), [], Stp.newH s1.fh hD, fun a e => (by
      subst e
      exact ⟨hF1, (by rw [upd_same]; exact fun z => nomatch z), hD⟩), rfl, ⟨by simp, D, [], [], rfl, rfl, upd_same, .nil, by simp, by simp⟩, by rw [List.drop_zero]; exact hb⟩, ?_⟩
  rintro i mm H' ⟨rfl, hi, F', S, acc, s', hS, hSD, ra, hr⟩
  by_cases hlt : i < xs.length
  · refine .inr ⟨tw.goes i F' H' hlt s'.ff s'.fh ((en.base.stp s1).stp s') (fun _ => s'.hh), _, fun H2 h => h, fun x H2 y => ?_⟩
    obtain ⟨F2, a, s2, ea, rx⟩ := tw.yields i F' H' x H2 hlt s'.ff s'.fh ((en.base.stp s1).stp s') (fun _ => s'.hh) y
    have ed : xs.drop i = a :: xs.drop (i + 1) := by
      rw [List.getElem?_eq_getElem hlt] at ea
      rw [List.drop_eq_getElem_cons hlt, Option.some.inj ea]
    rw [ed] at hr
    have s3 := s'.trans s2
    intro sb Hb Cb clb fpb
    refine hg sb Hb Cb clb fpb _ F2 H2 ω _ x a _ (enw.stp s3) rx fun σ2 ω2 k2 l2 _ en2 => ?_
    refine ⟨(wipe_eq k2 l2 hix).trans (wipe_wipe _ _), ?_⟩
    intro sc2 Hc2 Cc2 clc2 fpc2
    -- what the item gives
    obtain ⟨j, b, e1, e2, hz, e3⟩ : ∃ j b, mk a = .ok j ∧ mv a = .ok b ∧ acc.length < 16777216 ∧ dcO mk mv (xs.drop (i + 1)) (aput acc j b) = .ok bs := by
      unfold dcO at hr
      cases e : mk a with
      | ok j =>
        rw [e] at hr
        cases e2 : mv a with
        | ok b =>
          simp only [e2] at hr
          by_cases c : acc.length < 16777216
          · rw [if_pos c] at hr
            exact ⟨j, b, rfl, rfl, c, hr⟩
          · rw [if_neg c] at hr; cases hr
        | err x => simp only [e2] at hr; cases hr
        | stuck => simp only [e2] at hr; cases hr
      | err x => rw [e] at hr; cases hr
      | stuck => rw [e] at hr; cases hr
    refine wts_nil (X := bx X scope sc2 Hc2 Cc2 clc2 fpc2) (E := E0) (B := B) σ2 F2 H2 ω2 _ en2 ?_
    intro F3 H3 s4
    show if true = true then _ else _
    rw [if_pos rfl]
    intro sk Hk Ck clk fpk
    refine hk sk Hk Ck clk fpk a σ2 F3 H3 ω2 _ (en2.stp s4) ?_
    rw [e1]
    intro v F4 H4 s5 rv
    intro se He Ce cle fpe
    refine he se He Ce cle fpe a σ2 F4 H4 ω2 _ ((en2.stp s4).stp s5) ?_
    rw [e2]
    intro z F5 H5 S5 s6 d5 r5
    have t45 := (s2.trans s4).trans s5
    have t5 := t45.trans s6
    have ra5 : (oDi kdI O).rel X.K F5 H5 S (.ref D) acc := (oDi kdI O).keep ra t5.ff fun p hp => same_at t5.hh (hS p hp).2.1
    obtain ⟨p, kvs, ep, sp, hp, hlen, hnd, _, _, put⟩ := di_put ra5
    cases ep
    have hv : v = .int j := rv
    have nl : ∀ q, S5 q → q ≠ D := fun q hq w => by
      have h1 : H4 q = none := (d5 q hq).2.2
      rw [w] at h1
      exact absurd h1 (same_ne t45.hh (hS D hSD).2.1)
    have dj : ∀ q, S5 q → ¬ S q := fun q hq w => absurd (d5 q hq).2.2 (same_ne t45.hh (hS q w).2.1)
    refine ⟨kvs.map (fun (x : Int × V) => (ki x.1, x.2)), ki j, by rw [hv]; rfl, hp, by rw [List.length_map, hlen, sizeLine_eq]; exact hz, ?_⟩
    rw [putK_emb (g := ki) (fun a b e => Sum.inl.inj e) _ _ _ hnd]
    have rn := put j F5 (upd H5 D (kdI.ho (aput kvs j z))) S5 z b (Same.refl F5) upd_same (fun q _ n => upd_ne n) dj (O.keep r5 (Same.refl F5) fun q hq => upd_ne (nl q hq))
    have hF5 : F5 D = none := t5.old D (hS D hSD).1 (hS D hSD).2.1
    refine ⟨xs.length - (i + 1), by omega, rfl, hlt, F5, fun q => S q ∨ S5 q, aput acc j b, (s'.trans t5).updN hD hF5, fun q hq => ?_, .inl hSD, rn, e3⟩
    rcases hq with w | w
    · refine ⟨t5.old q (hS q w).1 (hS q w).2.1, ?_, (hS q w).2.2⟩
      by_cases c : q = D
      · rw [c, upd_same]; exact fun z => nomatch z
      · rw [upd_ne c]; exact same_ne t5.hh (hS q w).2.1
    · refine ⟨(d5 q w).1, by rw [upd_ne (nl q w)]; exact (d5 q w).2.1, ?_⟩
      exact (s'.trans t45).hh.free (d5 q w).2.2
  · have e : i = xs.length := by omega
    subst e
    rw [List.drop_length] at hr
    have er : acc = bs := by cases hr; rfl
    subst er
    refine .inl ⟨tw.stops F' H' s'.ff s'.fh ((en.base.stp s1).stp s') (fun _ => s'.hh), ?_⟩
    exact q (.ref D) F' H' S (s1.trans s') (fun a w => ⟨(hS a w).1, (hS a w).2.1, s1.hh.free (hS a w).2.2⟩) ra
theorem wo_dcI (C : XC X N sc k E) (own : List (Str × Nat)) (hk0 : blkC N sc.sc scope own = true) (hit : WIs X E B Γ tg iter T mi) (hix : ∀ j ∈ ix, j ∈ own.map (·.2)) (hg : ∀ s H' Cc cl fp, XC (bx X scope s H' Cc cl fp) N ⟨relS scope sc.sc, scope⟩ k E0 → WG (bx X scope s H' Cc cl fp) B tg T ix g)
    (hk : ∀ s H' Cc cl fp a, XC (bx X scope s H' Cc cl fp) N ⟨relS scope sc.sc, scope⟩ k E0 → WE (bx X scope s H' Cc cl fp) E0 B (g a (wipeS Γ (own.map (·.2)))) kx tInt.rl (mk a))
    (he : ∀ s H' Cc cl fp a, XC (bx X scope s H' Cc cl fp) N ⟨relS scope sc.sc, scope⟩ k E0 → WO (bx X scope s H' Cc cl fp) E0 B (g a (wipeS Γ (own.map (·.2)))) vx O (mv a))
    (hs : ∀ x, foldedSetIterable iter X.env x = pure x := by intro _; rfl) : WO X E B Γ (.DictComp kx vx [⟨tg, iter, [], 0⟩] scope pos) (oDi kdI O) (mi >>= fun xs => dcO mk mv xs []) := fun σ F H ω Q en po =>
  ⟨_, pe_dc C.calm (by rw [C.nm]; exact C.nd) pi_s (blk_ok C hk0) pg_u pts_u pe_u pe_u hs, dc_read C hit hix (fun s H' Cc cl fp => hg s H' Cc cl fp (xc_blk C s H' Cc cl fp)) (fun s H' Cc cl fp a => hk s H' Cc cl fp a (xc_blk C s H' Cc cl fp)) (fun s H' Cc cl fp a => he s H' Cc cl fp a (xc_blk C s H' Cc cl fp)) en po⟩
/-- name = {..} on one line, the name a local -/
theorem ps_setDc {i : Nat} {y : Str} {py spos : Pos} {ifs : List Expr} {wi : TI} {g : TG} {tt : TT} {tk tv : TE} (hc : X.calm = true) (hN : X.N.Nodup) (hy : X.N[i]? = some y) (hyl : X.env.scope.names.lookup y = some .local)
    (hsw : swapsWith (.DictComp kx vx [⟨tg, iter, ifs, 0⟩] scope pos) (some (.Name y py)) spos.line X.env = pure true) (hi : PI X tg iter wi) (ok : BlkOk X.N X.env.scope scope own)
    (hg : ∀ (s : Shared) (H : Hp) (C : Addr) (cl : List (Str × Addr)) (fp : List Addr), PG (X.blk s H scope (compEnvC scope cl C X.env) fp) tg g) (ht : ∀ (s : Shared) (H : Hp) (C : Addr) (cl : List (Str × Addr)) (fp : List Addr), PTs (X.blk s H scope (compEnvC scope cl C X.env) fp) ifs tt)
    (hk : ∀ (s : Shared) (H : Hp) (C : Addr) (cl : List (Str × Addr)) (fp : List Addr), PE (X.blk s H scope (compEnvC scope cl C X.env) fp) kx tk)
    (he : ∀ (s : Shared) (H : Hp) (C : Addr) (cl : List (Str × Addr)) (fp : List Addr), PE (X.blk s H scope (compEnvC scope cl C X.env) fp) vx tv) (hs : ∀ x, foldedSetIterable iter X.env x = pure x := by intro _; rfl) :
    PS X (.Assign [.Name y py] (.DictComp kx vx [⟨tg, iter, ifs, 0⟩] scope pos) spos) (tAsg (tDc wi g tt tk tv (own.map (·.2))) (gName i)) := by
  refine ⟨fun pins s σ H D I h => ?_⟩
  rw [exec_Assign_Name_used _ _ _ _ hsw]
  refine wpAny_bind (wpAny_standAt (wpAny_bind ?_))
  show wpAny _ X.A (do let _ ← comprehension (.DictComp kx vx [⟨tg, iter, ifs, 0⟩] scope pos) scope X.env (firstIterPos [⟨tg, iter, ifs, 0⟩] pos) newDict false (eval iter X.env) (some (assign (.Name y py) X.env))) _ _ s
  have h : tDc wi g tt tk tv (own.map (·.2)) σ H (fun x H1 => gName i x σ H1 D.nx) := h
  refine wpAny_bind (thn (dc_core (Qf := fun _ s' => SP X pins D .next s') hc hN I hi ok hg ht hk he hs h fun L C s' m H' I' q hn f => ?_) fun _ s' hq => wpAny_pure (wpAny_pure hq))
  show wpAny _ _ (assign (.Name y py) X.env (.ref L)) _ _ _
  refine wpAny_assign_Name (store_ok2 (v := V.ref L) I' hN hy (.inl hyl) rfl (fun s2 I2 ⟨a, sb, ha⟩ => ?_) (.inr hyl))
  obtain ⟨f0, f1, f2, f3, f4, f5⟩ := f
  have haC : C ≠ a := by
    rcases ha with z | z
    · rw [z]; exact f1
    · exact fun e => f4 y a z e.symm
  refine ⟨m, hn.sameBut sb haC, fun h3 sb3 => ?_⟩
  exact ⟨_, H', I2.turned (t' := s2.toks) (fun b o hb e => (sb3.2 b hb).trans e) f0 f1 f3 f4 f5, q⟩
theorem sw_trueD {gs : List Comprehension} {py : Pos} {y : Str} {l : Nat} {env : Env} (hk : env.scope.kind = .function) (hy : env.scope.names.lookup y = some .local) (hl : (py.line == pos.line) = true)
    (ha : (scope.names.any fun (n, k) => n == y && (k == .local || k == .cell)) = false) : swapsWith (.DictComp kx vx gs scope pos) (some (.Name y py)) l env = pure true := by
  have ky : env.kindOf y = some .local := hy
  have hb : env.blockKind = .function := by unfold Env.blockKind; rw [hk]; rfl
  unfold swapsWith
  simp only [hb, ky, ha, Expr.pos, hl]
  rfl
theorem ws_dcI {b : List Stmt} {bs : List (List Stmt)} {γ : Type} {D : γ → SOut} {f : List (Int × β) → Out γ} {y : Str} {py spos : Pos} (C : XC X N sc k E) (i : Nat) (own : List (Str × Nat)) (hk0 : blkC N sc.sc scope own = true) (hit : WIs X E B Γ tg iter T mi) (hix : ∀ j ∈ ix, j ∈ own.map (·.2)) (hg : ∀ s H' Cc cl fp, XC (bx X scope s H' Cc cl fp) N ⟨relS scope sc.sc, scope⟩ k E0 → WG (bx X scope s H' Cc cl fp) B tg T ix g)
    (hk : ∀ s H' Cc cl fp a, XC (bx X scope s H' Cc cl fp) N ⟨relS scope sc.sc, scope⟩ k E0 → WE (bx X scope s H' Cc cl fp) E0 B (g a (wipeS Γ (own.map (·.2)))) kx tInt.rl (mk a))
    (he : ∀ s H' Cc cl fp a, XC (bx X scope s H' Cc cl fp) N ⟨relS scope sc.sc, scope⟩ k E0 → WO (bx X scope s H' Cc cl fp) E0 B (g a (wipeS Γ (own.map (·.2)))) vx O (mv a))
    (hr : ∀ a, WS X E B (Γ.set i (.on _ (oDi kdI O) a)) (b :: bs) (f a) D) (hN : N[i]? = some y := by rfl) (hyl : sc.sc.names.lookup y = some .local := by rfl) (hkd : sc.sc.kind = .function := by rfl) (hln : (py.line == pos.line) = true := by rfl)
    (hna : (scope.names.any fun (n, k) => n == y && (k == .local || k == .cell)) = false := by decide +kernel) (hs : ∀ x, foldedSetIterable iter X.env x = pure x := by intro _; rfl) :
    WS X E B Γ ((.Assign [.Name y py] (.DictComp kx vx [⟨tg, iter, [], 0⟩] scope pos) spos :: b) :: bs) ((mi >>= fun xs => dcO mk mv xs []) >>= f) D := fun σ F H ω En en q => by
  have hyl' : X.env.scope.names.lookup y = some .local := by rw [C.scp]; exact hyl
  refine sK_cons ⟨_, ps_setDc (i := i) C.calm (by rw [C.nm]; exact C.nd) (by rw [C.nm]; exact hN) hyl' (sw_trueD (by rw [C.scp]; exact hkd) hyl' hln hna) pi_s (blk_ok C hk0) pg_u pts_u pe_u pe_u hs, ?_⟩
  refine dc_read C hit hix (fun s H' Cc cl fp => hg s H' Cc cl fp (xc_blk C s H' Cc cl fp)) (fun s H' Cc cl fp a => hk s H' Cc cl fp a (xc_blk C s H' Cc cl fp)) (fun s H' Cc cl fp a => he s H' Cc cl fp a (xc_blk C s H' Cc cl fp)) en (q.bind.imp fun a q v F1 H1 S s1 d r => ?_)
  obtain ⟨ω', en'⟩ := env_setO (i := i) (en.stp s1) (new_ok en s1 d) r
  exact hr a _ F1 H1 _ En en' (q.imp fun b z => EndOk.up z s1.ff)
end
/-! ### P[i] op= e, a list of ints -/
theorem get_listG : PGet X (rIxL X.K) := by
  intro pins s σ H x y v u Q I rx ry h
  obtain ⟨p, xs, i, z, rfl, rfl, hq, he, q⟩ := h
  cases rx
  obtain ⟨t, rfl⟩ := ry
  obtain ⟨its, r, pl, hz⟩ := I.list hq
  obtain ⟨j, h1, h2, h3, h4, h5⟩ := atI_get he
  obtain ⟨w, ew, rw'⟩ := r.get h2
  have hl := r.length
  have hn := line63
  have fin : EP X pins σ Q w s := ⟨z, H, I, rw', q⟩
  by_cases h0 : 0 ≤ i
  · have hj : i.toNat = j := by
      rw [seqIndex_of h0 h5] at h1
      exact Option.some.inj h1
    exact wpAny_getItem_list pl.isList h0 (by omega) (by rw [hj]; simpa using ew) fin
  · have hj : (i + (its.toArray.size : Int)).toNat = j := by
      rw [seqIndex_neg (by omega) h4] at h1
      rw [List.size_toArray, ← hl]
      exact Option.some.inj h1
    exact wpAny_getItem_list_neg pl.isList (by omega) (by rw [List.size_toArray] <;> omega) (by omega) (by rw [hj]; simpa using ew) fin
section
variable {γ : Type} {D : γ → SOut} {b : List Stmt} {bs : List (List Stmt)} {tpos pos : Pos} {e eP ei : Expr} {α : Type} {O : Own α} {me mi : Out Int} {mP : Out (List Int × (List Int → α))} {f : List Int × (List Int → α) → List Int → Out γ}
theorem ws_augS (i : Nat) {op : Operator} {g : Int → Int → Int} (ho : PIp X op (ipI g)) (hP : WL X E B Γ i eP O (oLst tInt) mP) (hi : WE X E B Γ ei tInt.rl mi) (h : WE X E B Γ e tInt.rl me) (hr : ∀ r l, WS X E B (Γ.set i (.on α O (r.2 l))) (b :: bs) (f r l) D)
    (ha : ∀ ov iv new, augStore ei ov iv new = (do holding [new, ov, iv] (setItem ov iv new); release [new, ov, iv] []; pure .next) := by intros; rfl) :
    WS X E B Γ ((.AugAssign (.Subscript eP ei tpos) op e pos :: b) :: bs) (mP >>= fun r => mi >>= fun j => idx r.1 j >>= fun x => me >>= fun y => setO r.1 j (g x y) >>= fun l => f r l) D := fun σ F H ω En en q => by
  refine sK_cons ⟨_, ps_augS pe_s pe_s get_listG pe_s ho set_list ha, ?_⟩
  refine hP σ F H ω _ en (q.bind.imp fun r q v0 w F1 H1 s1 hv sb => ?_)
  have en1 := en.stp s1
  refine hi σ F1 H1 ω _ en1 (q.bind.imp fun j q v2 F2 H2 s2 rj => ?_)
  have en2 := en1.stp s2
  obtain ⟨l, vs, e1, hl, rr, _⟩ := env_subL en2 hv (sub_stp en s2 s1 sb)
  subst e1
  unfold idx at q
  cases hx : atI r.1 j with
  | none => rw [hx] at q; exact q.elim
  | some x =>
    rw [hx] at q
    obtain ⟨vx, hvx, rx⟩ := fa2_at rr hx
    refine ⟨l, vs, j, vx, rfl, rj, SqL.of hl, hvx, ?_⟩
    have q : Post (me >>= fun y => setO r.1 j (g x y) >>= fun l => f r l) (fun b => EndOk X.K B F En (D b)) (RB X.K B E) := q
    refine h σ F2 H2 ω _ en2 (q.bind.imp fun y q v3 F3 H3 s3 ry => ?_)
    refine ⟨x, y, rx, ry, ?_⟩
    have en3 := en2.stp s3
    obtain ⟨l', vs', e1', hl', rr', up⟩ := env_subL en3 hv (sub_stp en (s2.trans s3) s1 sb)
    cases e1'
    unfold setO ixO at q
    cases hj : ixN r.1.length j with
    | none => rw [hj] at q; exact q.elim
    | some n =>
      rw [hj] at q
      refine ⟨l, vs', j, n, rfl, rj, hl', by rw [rr'.len]; exact hj, ?_⟩
      obtain ⟨ω', en'⟩ := up (vs'.set n (.int (g x y))) _ (rr'.set (v := .int (g x y)) (a := g x y) rfl n)
      exact hr r _ σ F3 _ ω' En en' (Post.imp q fun b z => EndOk.up z ((s1.ff.trans s2.ff).trans s3.ff))
end
/-! ### is, of bools -/
section
variable {e1 e2 : Expr} {m1 m2 : Out Bool} {pos : Pos}
theorem v_isB {K : PySem.W.Frag} : VOp K rIsB tBool.rl tBool.rl tBool.rl (fun a b => pure (decide (a = b))) := fun F H x y a b Q J s h1 h2 p => ⟨a, b, h1, h2, p _ F H (Stp.refl s) rfl⟩
theorem we_isB (h1 : WE X E B Γ e1 tBool.rl m1) (h2 : WE X E B Γ e2 tBool.rl m2) : WE X E B Γ (.Compare e1 [.Is] [e2] pos) tBool.rl (m1 >>= fun a => m2 >>= fun b => pure (decide (a = b))) := we_cmp op_isBl v_isB (nomark _) h1 h2
theorem wt_isB (h1 : WE X E B Γ e1 tBool.rl m1) (h2 : WE X E B Γ e2 tBool.rl m2) : WT X E B Γ (.Compare e1 [.Is] [e2] pos) (m1 >>= fun a => m2 >>= fun b => pure (decide (a = b))) := wt_cmp op_isBl v_isB (nomark _) h1 h2
end
end SL

set_option Elab.async false
set_option linter.all false
set_option maxRecDepth 100000
set_option maxHeartbeats 2000000
/-! SLz: repr of lists and tuples. -/
namespace SL
open PySem PySem.Spec PyProof.Rows L2
variable {X : Cx} {N : List Str} {sc : Scp} {k : Nat} {E : XK} {B : Bs} {Γ : List Slot}
def CanRepr (d : PyData) : Prop := (isL d = true ∨ isT d = true) ∧ d.showable = true ∧ d.hasDict = false ∧ d.depth ≤ 60 ∧ d.shown.length ≤ 16777216
instance (d : PyData) : Decidable (CanRepr d) := by unfold CanRepr; infer_instance
def reprO (d : PyData) : Out Str := if CanRepr d then pure d.shown else .stuck
theorem call_reprD (gd : X.A.guards = some []) (hu : X.A.units + 64 < cLine) : CallR X (.builtin "repr") (fun xs H Q => ∃ v d, xs = [v] ∧ Dp X.K H v d ∧ CanRepr d ∧ Q (.str d.shown) H) := by
  intro pins s σ H xs us Q I r h
  obtain ⟨v, d, rfl, hd, ⟨hc, h1, h2, h3, h4⟩, q⟩ := h
  cases r with
  | cons rv rn =>
    cases rn
    obtain ⟨as, rd⟩ := Dp.reads I d v _ hd rv
    have go : ∀ a : Addr, Reads s.heap (.ref a) d as → wpAny (model X.prog X.w) X.A (call (.builtin "repr") [.ref a]) (EP X pins σ Q) X.xe s := fun a rd =>
      repr_of_reads' rd h1 (PyData.noDict_hsm h2) gd (by omega) (fun _ _ e => e) (fun h' u tk hk => ⟨.str d.shown, H, I.kept hk, ⟨u, rfl⟩, q⟩) (by rw [sizeLine_eq]; exact h4)
    cases d with
    | list xs =>
      cases rd with
      | list e1 e2 e3 e4 => exact go _ (.list e1 e2 e3 e4)
    | tuple xs =>
      cases rd with
      | tuple e1 e2 e3 e4 => exact go _ (.tuple e1 e2 e3 e4)
    | none => exact absurd hc (by simp [isL, isT])
    | bool _ => exact absurd hc (by simp [isL, isT])
    | int _ => exact absurd hc (by simp [isL, isT])
    | str _ => exact absurd hc (by simp [isL, isT])
    | dict _ => exact absurd hc (by simp [isL, isT])
theorem we_repr (C : XC X N sc k E) (Z : Fre X.mg) {e : Expr} {α : Type} {R : Rl α} {m : Out α} {p pos : Pos} {d : α → PyData} (r : DpR R d) (h : WE X E B Γ e R m) (hg : GlN sc "repr" := by rfl)
    (he : starEach (e :: []) X.env = (false, eval e X.env) :: starEach [] X.env := by rfl) : WE X E B Γ (.Call (.Name "repr" p) [e] [] pos) tStr.rl (m >>= fun a => reprO (d a)) :=
  cb1 C (call_reprD C.gd (hu64 C)) Z.repr boot_repr (fun F H x a Q J s rx q => by
    unfold reprO at q
    by_cases c : CanRepr (d a)
    · rw [if_pos c] at q
      exact ⟨x, d a, rfl, r _ _ _ _ _ s rx, c, q _ F H (Stp.refl s) rfl⟩
    · rw [if_neg c] at q
      exact q.elim) h hg (he := he)
theorem dp_str : DpT tStr (fun s => .str s) := fun K F v a h => by rw [show v = .str a from h]; exact .str _
def optD {α : Type} (d : α → PyData) : Option α → PyData
  | none => .none
  | some a => d a
theorem dp_opt {α : Type} {T : Ty α} {d : α → PyData} (h : DpT T d) : DpT (tOpt T) (optD d) := fun K F v a r => by
  cases a with
  | none =>
    rw [show v = .non from r]
    exact .non
  | some a => exact h K F v a r.2
theorem nn_l2 {α β : Type} {T : Ty α} {U : Ty β} : NN (tL2 T U) := fun _ _ _ _ ⟨_, _, _, e, _⟩ => by rw [e]; exact fun z => nomatch z
theorem nn_l3 {α β γ : Type} {T : Ty α} {U : Ty β} {W : Ty γ} : NN (tL3 T U W) := fun _ _ _ _ ⟨_, _, _, _, e, _⟩ => by rw [e]; exact fun z => nomatch z
theorem fa2_ints {K : PySem.W.Frag} {F : Hp} {vs : List V} {ns : List Int} (h : Fa2 (tInt.rel K F) vs ns) : vs = ns.map V.int := by
  induction h with
  | nil => rfl
  | cons r _ ih => rw [ih, show _ = _ from r]; rfl
/-- xs.count(n) -/
theorem we_countL (C : XC X N sc k E) {o e : Expr} {m : Out (List Int)} {m2 : Out Int} {p2 p3 : Pos} (h : WE X E B Γ o (rLst tInt) m) (h2 : WE X E B Γ e tInt.rl m2)
    (hbase : attributeBase o "count" X.env (eval o X.env) = eval o X.env := by rfl)
    (hfew : ((backTo p3 (starEach (e :: []) X.env)).all (fun x => !x.1) && (backToKw p3 (keywordEach [] X.env)).all (fun x => x.1.isSome) && decide ((e :: []).length + ([] : List Keyword).length + (if ([] : List Keyword).isEmpty then 0 else 1) < 30)) = true := by rfl)
    (hline : (p2.endLine == p3.line) = true := by rfl) (hs : starEach (e :: []) X.env = (false, eval e X.env) :: starEach [] X.env := by rfl) :
    WE X E B Γ (.Call (.Attribute o "count" p2) [e] [] p3) tInt.rl (m >>= fun a => m2 >>= fun b => pure (a.count b : Int)) := fun σ F H ω Q en po => by
  refine ⟨_, pe_bm PySem.F.plainAttrs_list PySem.F.slot_list_count PySem.F.type_list_count mt_lcount pe_s (pa_cons pe_s pa_nil hs) hbase hfew hline hs, ?_⟩
  refine h σ F H ω _ en (po.bind.imp fun xs po v F1 H1 s1 ⟨p, vs, e, sq, r⟩ => ?_)
  subst e
  refine ⟨.inl ⟨rfl, vs, sq⟩, ?_⟩
  refine h2 σ F1 H1 ω _ (en.stp s1) (po.bind.imp fun x po y F2 H2 s2 ry => ?_)
  refine ⟨p, xs, x, rfl, by rw [show y = .int x from ry], ?_, po _ F2 H2 (s1.trans s2) rfl⟩
  rw [← fa2_ints r]
  exact s2.hh.seq sq
end SL

set_option Elab.async false
set_option linter.all false
set_option maxRecDepth 100000
set_option maxHeartbeats 2000000
/-! TCa: classes: instances as records. -/
namespace SL
open PySem PySem.Spec PyProof.Rows L2
/-! ### fields -/
inductive FV where
  | mk (n : Str) (α : Type) (T : Ty α) (a : α)
def FV.n : FV → Str
  | .mk n _ _ _ => n
def FV.ok (K : PySem.W.Frag) (F : Hp) (v : V) : FV → Prop
  | .mk _ _ T a => T.rel K F v a
inductive FaV (K : PySem.W.Frag) (F : Hp) : List V → List FV → Prop where
  | nil : FaV K F [] []
  | cons {v : V} {f : FV} {vs : List V} {fs : List FV} : f.ok K F v → FaV K F vs fs → FaV K F (v :: vs) (f :: fs)
theorem FV.up {K : PySem.W.Frag} {F F' : Hp} {v : V} {f : FV} (s : Same F F') (h : f.ok K F v) : f.ok K F' v := by
  cases f with
  | mk n α T a => exact T.mono s h
theorem FaV.up {K : PySem.W.Frag} {F F' : Hp} {vs : List V} {fs : List FV} (s : Same F F') (h : FaV K F vs fs) : FaV K F' vs fs := by
  induction h with
  | nil => exact .nil
  | cons r _ ih => exact .cons (FV.up s r) ih
theorem FaV.len {K : PySem.W.Frag} {F : Hp} {vs : List V} {fs : List FV} (h : FaV K F vs fs) : vs.length = fs.length := by
  induction h with
  | nil => rfl
  | cons _ _ ih => rw [List.length_cons, List.length_cons, ih]
theorem FaV.app {K : PySem.W.Frag} {F : Hp} {vs ws : List V} {fs gs : List FV} (h : FaV K F vs fs) (g : FaV K F ws gs) : FaV K F (vs ++ ws) (fs ++ gs) := by
  induction h with
  | nil => exact g
  | cons r _ ih => exact .cons r ih
theorem FaV.get {K : PySem.W.Frag} {F : Hp} {vs : List V} {fs : List FV} (h : FaV K F vs fs) : ∀ {j : Nat} {f : FV}, fs[j]? = some f → ∃ v, vs[j]? = some v ∧ f.ok K F v := by
  induction h with
  | nil => intro j f e; simp at e
  | cons r _ ih =>
    intro j f e
    cases j with
    | zero => simp at e; subst e; exact ⟨_, rfl, r⟩
    | succ j => simpa using ih (by simpa using e)
theorem lookup_zip {f : Str} {v : V} : ∀ {ns : List Str} {vs : List V} {j : Nat}, ns.Nodup → ns[j]? = some f → vs[j]? = some v → (ns.zip vs).lookup f = some v
  | [], _, _, _, h, _ => by simp at h
  | _ :: _, [], _, _, _, h => by simp at h
  | n :: ns, w :: vs, 0, nd, h1, h2 => by
    simp at h1 h2
    subst h1 h2
    simp [List.lookup]
  | n :: ns, w :: vs, j + 1, nd, h1, h2 => by
    simp only [List.getElem?_cons_succ] at h1 h2
    have ne : ¬ f = n := fun z => (List.nodup_cons.mp nd).1 (z ▸ List.mem_of_getElem? h1)
    have e : (f == n) = false := by simpa using ne
    rw [List.zip_cons_cons, List.lookup_cons, e]
    exact lookup_zip (List.nodup_cons.mp nd).2 h1 h2
theorem lookup_zip_none {f : Str} : ∀ {ns : List Str} {vs : List V}, f ∉ ns → (ns.zip vs).lookup f = none
  | [], vs, _ => by simp
  | _ :: _, [], _ => by simp
  | n :: ns, w :: vs, h => by
    have e : (f == n) = false := by
      have : ¬ f = n := fun z => h (by simp [z])
      simpa using this
    rw [List.zip_cons_cons, List.lookup_cons, e]
    exact lookup_zip_none fun z => h (by simp [z])
theorem putF_new {f : Str} {y : V} : ∀ {ns : List Str} {vs : List V}, ns.length = vs.length → f ∉ ns → putF f y (ns.zip vs) = (ns ++ [f]).zip (vs ++ [y])
  | [], [], _, _ => rfl
  | n :: ns, w :: vs, l, h => by
    show (if n = f then (n, y) :: ns.zip vs else (n, w) :: putF f y (ns.zip vs)) = _
    rw [if_neg (fun z => h (by simp [z]))]
    exact congrArg (List.cons (n, w)) (putF_new (by simpa using l) fun z => h (by simp [z]))
  | [], _ :: _, l, _ => by simp at l
  | _ :: _, [], l, _ => by simp at l
/-- the fields of a class, in the order in which they are stored -/
structure Fls (ο : Type) where
  names : List Str
  fvs : ο → List FV
  nm : ∀ o, (fvs o).map FV.n = names
  nd : names.Nodup
theorem Fls.len {ο : Type} (R : Fls ο) {K : PySem.W.Frag} {F : Hp} {vs : List V} {o : ο} (h : FaV K F vs (R.fvs o)) : R.names.length = vs.length := by
  rw [h.len, ← R.nm o, List.length_map]
/-- an instance that is not changed -/
def tRec (x : Str) {ο : Type} (R : Fls ο) : Ty ο := ⟨fun K F v a => ∃ p dx vs, v = .ref p ∧ F p = some (.ins (He.ga K x) dx (R.names.zip vs)) ∧ FaV K F vs (R.fvs a), fun s ⟨p, dx, vs, e, h, r⟩ => ⟨p, dx, vs, e, s _ _ h, r.up s⟩⟩
/-- an instance that is being made -/
def oRec (x : Str) (p dx : Addr) (fs : List FV) : Own Unit := ⟨fun K F H S v _ => ∃ vs, v = .ref p ∧ S p ∧ H p = some (.ins (He.ga K x) dx ((fs.map FV.n).zip vs)) ∧ FaV K F vs fs,
  fun ⟨vs, e, sp, h, r⟩ s k => ⟨vs, e, sp, (k p sp).trans h, r.up s⟩⟩
/-- what of the text a class must have -/
structure ClsF (K : PySem.W.Frag) (x : Str) (nf : List Str) : Prop where
  cls : Cls K (He.ga K x)
  na : ∀ f ∈ nf, NoAttr K (He.ga K x) f
theorem nn_rec {x : Str} {ο : Type} {R : Fls ο} : NN (tRec x R) := fun _ _ _ _ ⟨_, _, _, e, _⟩ => by rw [e]; exact fun z => nomatch z

variable {X : Cx} {N : List Str} {sc : Scp} {k : Nat} {E : XK} {B : Bs} {Γ : List Slot}
section
variable {x f : Str} {ο α : Type} {R : Fls ο} {T : Ty α} {g : ο → α} {e : Expr} {m : Out ο} {pos : Pos}
theorem rec_get {K : PySem.W.Frag} {F H : Hp} {v : V} {a : ο} (s : Same F H) (h : (tRec x R).rel K F v a) (j : Nat) (hj : (R.fvs a)[j]? = some (.mk f α T (g a))) : ∃ p dx vs w, v = .ref p ∧ H p = some (.ins (He.ga K x) dx (R.names.zip vs)) ∧ (R.names.zip vs).lookup f = some w ∧ T.rel K F w (g a) := by
  obtain ⟨p, dx, vs, e, h, r⟩ := h
  obtain ⟨w, hw, rw_⟩ := r.get hj
  refine ⟨p, dx, vs, w, e, s _ _ h, lookup_zip R.nd ?_ hw, rw_⟩
  rw [← R.nm a, List.getElem?_map, hj]
  rfl
/-- o.f -/
theorem we_fld (D : ClsF X.K x R.names) (j : Nat) (h : WE X E B Γ e (tRec x R).rl m) (hj : ∀ a, (R.fvs a)[j]? = some (.mk f α T (g a)) := by intro _; rfl) (hb : attributeBase e f X.env (eval e X.env) = eval e X.env := by rfl) :
    WE X E B Γ (.Attribute e f pos) T.rl (m >>= fun a => pure (g a)) := fun σ F H ω Q en q => by
  refine ⟨_, pe_fld pe_s hb, ?_⟩
  refine h σ F H ω _ en (q.bind.imp fun a q v F1 H1 s1 r => ?_)
  obtain ⟨p, dx, vs, w, e, hp, hl, rw_⟩ := rec_get s1.fh r j (hj a)
  refine ⟨p, _, dx, _, w, e, hp, D.cls, D.na f ?_, hl, q w F1 H1 s1 rw_⟩
  rw [← R.nm a]
  exact List.mem_map.mpr ⟨_, List.mem_of_getElem? (hj a), rfl⟩
end
/-! ### the instance that is being made -/
section
variable {x y f : Str} {q dx : Addr} {fs : List FV} {nf : List Str} {α β : Type} {T : Ty α} {a : α} {e : Expr} {me : Out α} {D : β → SOut} {b : List Stmt} {bs : List (List Stmt)} {p p2 pos : Pos} {h : α → Out β}
theorem own_rec {K : PySem.W.Frag} {Γ : List Slot} {σ : L2.St} {F H : Hp} {ω : Ow} {i : Nat} (en : EnvOk K B Γ σ F H ω) (hΓ : Γ[i]? = some (.on _ (oRec x q dx fs) ())) :
    ∃ vs, σ[i]? = some (some (.ref q)) ∧ ω q = some i ∧ H q = some (.ins (He.ga K x) dx ((fs.map FV.n).zip vs)) ∧ FaV K F vs fs := by
  obtain ⟨v, hv, vs, rfl, hp, hH, r⟩ := en.slot i _ hΓ
  exact ⟨vs, join_some hv, hp, hH, r⟩
/-- self.f = e -/
theorem ws_self (C : XC X N sc k E) (DC : ClsF X.K x nf) (i : Nat) (ns : List Str) (he : WE X E B Γ e T.rl me) (hr : ∀ a, WS X E B (Γ.set i (.on _ (oRec x q dx (fs ++ [.mk f α T a])) ())) (b :: bs) (h a) D) (hΓ : Γ[i]? = some (.on _ (oRec x q dx fs) ()) := by rfl) (hN : N[i]? = some y := by rfl)
    (hns : fs.map FV.n = ns := by rfl) (hf : f ∉ ns := by decide) (hn : f ∈ nf := by decide) (hl : ns.length < 1000 := by decide) (hv : Vis sc.sc y := by first | exact Or.inl rfl | exact Or.inr (Or.inl rfl) | exact Or.inr (Or.inr rfl)) (hd : (y == ("__debug__" : Str)) = false := by decide) (hcd : (y == ("__classdict__" : Str)) = false := by decide)
    (hs : swapsWith e (some (.Attribute (.Name y p) f p2)) pos.line X.env = pure false := by rfl) : WS X E B Γ ((.Assign [.Attribute (.Name y p) f p2] e pos :: b) :: bs) (me >>= h) D := fun σ F H ω En en po => by
  refine sK_cons ⟨_, ps_fld (pv_ C hN hv hd hcd) pe_s hs, ?_⟩
  refine he σ F H ω _ en (po.bind.imp fun a po v F1 H1 s1 ra => ?_)
  have en1 := en.stp s1
  obtain ⟨vs, hσ, hp, hH, r⟩ := own_rec en1 hΓ
  have lv : (fs.map FV.n).length = vs.length := by rw [List.length_map, r.len]
  refine ⟨.ref q, hσ, q, _, dx, _, rfl, hH, DC.cls, DC.na f hn, by rw [List.length_zip, ← lv, hns, Nat.min_self]; exact hl, ?_⟩
  rw [putF_new lv (by rw [hns]; exact hf)]
  refine hr a σ F1 _ ω En (env_wr en1 hΓ hσ hp ⟨vs ++ [v], rfl, hp, ?_, r.app (.cons ra .nil)⟩) (po.imp fun b z => EndOk.up z s1.ff)
  rw [upd_same, List.map_append]
  rfl
/-- self.f, read -/
theorem we_self (C : XC X N sc k E) (DC : ClsF X.K x nf) (i j : Nat) (ns : List Str) (hΓ : Γ[i]? = some (.on _ (oRec x q dx fs) ()) := by rfl) (hj : fs[j]? = some (.mk f α T a) := by rfl) (hN : N[i]? = some y := by rfl) (hns : fs.map FV.n = ns := by rfl) (hn : f ∈ nf := by decide) (hnd : ns.Nodup := by decide)
    (hv : Vis sc.sc y := by first | exact Or.inl rfl | exact Or.inr (Or.inl rfl) | exact Or.inr (Or.inr rfl)) (hd : (y == ("__debug__" : Str)) = false := by decide) (hcd : (y == ("__classdict__" : Str)) = false := by decide)
    (hb : attributeBase (.Name y p) f X.env (eval (.Name y p) X.env) = eval (.Name y p) X.env := by rfl) : WE X E B Γ (.Attribute (.Name y p) f pos) T.rl (pure a) := fun σ F H ω Q en po => by
  refine ⟨_, pe_fld (pv_ C hN hv hd hcd) hb, ?_⟩
  obtain ⟨vs, hσ, hp, hH, r⟩ := own_rec en hΓ
  obtain ⟨w, hw, rw_⟩ := r.get hj
  exact ⟨.ref q, hσ, q, _, dx, _, w, rfl, hH, DC.cls, DC.na f hn, lookup_zip (by rw [hns]; exact hnd) (by rw [List.getElem?_map, hj]; rfl) hw, po w F H (Stp.refl en.fh) rw_⟩
end
end SL

set_option Elab.async false
set_option linter.all false
set_option maxRecDepth 100000
set_option maxHeartbeats 2000000
/-! TCb: making instances, methods, properties. -/
namespace SL
open PySem PySem.Spec PyProof.Rows L2
/-! ### by the model -/
theorem gd_make {A : Around} {C : Addr} {us : List Value} {kw : List (Str × Value)} (g : A.guards = some []) : (A.under (.builtin "type.__call__" ⟨.ref C :: us, kw⟩)).guards = some [] := by
  have e : Code.isGuard (.builtin "type.__call__" ⟨.ref C :: us, kw⟩) = false := by
    show guardIds.contains "type.__call__" = false
    decide +kernel
  simp [Around.under, Code.guards, e, pushGuards, g]
section
variable {X : Cx} {cx : CXT} {k : Nat} {f C p : Addr} {fd : FuncData} {ps : List Str} {sp : Sp} {dvs : List V} {ds : List Value} {E : XK} {x m : Str} {q pos apos : Pos} {e o : Expr} {es : List Expr} {ta : TE} {t : TA}
theorem runMkG {pins : List (Addr × Obj)} {σ : L2.St} {H : Hp} {s : Shared} {Q : VK} {us : List Value} {vs : List V} (M : Mk X.K C f) (F : FnG X.prog X.w X.K X.mg X.base cx k f fd ps sp) (gd : X.A.guards = some []) (hr : Room (k + 1) X.A) (hb : Binds X.K fd ps ds) (hd : Vals dvs ds) (hx : Passes cx X E)
    (I : Inv X pins σ H s) (r : Vals vs us) (h : ∀ a dx, H a = none → H dx = none → dx ≠ a → sp (.ref a :: (vs ++ dvs)) (upd (upd H dx (.own a)) a (.ins C dx [])) (fun v H2 => v = .non ∧ Q (.ref a) H2) E) :
    wpAny (model X.prog X.w) X.A (call (.ref C) us) (EP X pins σ Q) X.xe s := by
  have hq := h (s.heap.objs.size + 1) s.heap.objs.size (I.hok.fresh (Nat.le_succ _)) (I.hok.fresh (Nat.le_refl _)) (Nat.ne_of_lt (Nat.lt_succ_self _))
  have J := Inv.made (C := C) I
  have r2 : Vals (V.ref (s.heap.objs.size + 1) :: (vs ++ dvs)) (Value.ref (s.heap.objs.size + 1) :: (us ++ ds)) := .cons rfl (r.append hd)
  have l2 : (Value.ref (s.heap.objs.size + 1) :: us ++ ds).length = ps.length := r2.length.symm.trans (F.len _ _ _ _ hq)
  refine wpAny_call (make_map (f := f) I.kIn M.makes M.init (beq_iff_eq.mp M.fn) (codeAny_mono (F.run _ X.stack _ _ ⟨Value.ref (s.heap.objs.size + 1) :: us, []⟩ _ _ _ E (hr.make C us []) (gd_make gd) (J.env0.make C us []) (hb _ (Value.ref (s.heap.objs.size + 1) :: us) J.kIn l2) r2 hq) fun fin s2 z => ?_))
  match fin, z with
  | .error u, z => exact hx pins σ _ _ u s2 J z
  | .ok (.ret u), z =>
    obtain ⟨v, H2, J2, rv, ev, q2⟩ := J.after z
    subst ev
    exact ⟨rv, V.ref (s.heap.objs.size + 1), H2, J2, rfl, q2⟩
theorem pe_makeG (M : Mk X.K C f) (F : FnG X.prog X.w X.K X.mg X.base cx k f fd ps sp) (gd : X.A.guards = some []) (hr : Room (k + 1) X.A) (hg : Gl X x) (hm : X.mg x = some (.ref C)) (hb : Binds X.K fd ps ds) (hd : Vals dvs ds) (hx : Passes cx X E)
    (ha : PA X (e :: es) t) (hdb : (x == ("__debug__" : Str)) = false := by decide) (he : starEach (e :: es) X.env = (false, eval e X.env) :: starEach es X.env := by rfl) (hpl : (backTo pos (starEach es X.env)).any (·.1) = false := by rfl) :
    PE X (.Call (.Name x q) (e :: es) [] pos) (tMake C sp dvs E t) := ⟨fun pins s σ H Q I h =>
  wpAny_Call_Name_kw (ld_glob I hg hm (PySem.W.callWith_K (h₀ := X.base) I.ok.mod.kin M.kp (thn (ha.run pos pins s σ H _ I h) fun _ _ ⟨_, _, J, r, z⟩ => ⟨J.kIn, runMkG M F gd hr hb hd hx J r z⟩) he hpl) hdb)⟩
theorem pe_methG {pl : Sem Bool} (he : PE X o ta) (c : Cls X.K C) (hm : Meth X.K C m f) (F : FnG X.prog X.w X.K X.mg X.base cx k f fd ps sp) (gd : X.A.guards = some []) (hr : Room k X.A) (hb : Binds X.K fd ps ds) (hd : Vals dvs ds) (hx : Passes cx X E) (ha : PA X (e :: es) t)
    (hst : starEach (e :: es) X.env = (false, eval e X.env) :: starEach es X.env := by rfl) (hpl : (backTo pos (starEach es X.env)).any (·.1) = false := by rfl)
    (ht : eval (.Call (.Attribute o m apos) (e :: es) [] pos) X.env = (do
      let u ← eval o X.env
      standAt apos.atName
      let (g, one) ← holding [u] (getMethod u m pl)
      callWith pos g one (backTo pos (starEach (e :: es) X.env)) (backToKw pos (keywordEach [] X.env))) := by rfl) : PE X (.Call (.Attribute o m apos) (e :: es) [] pos) (tMeth C m sp dvs E ta t) := ⟨fun pins s σ H Q I h => by
  refine PySem.W.methodCall_KW (pl := pl) (thn (he.run pins s σ H _ I h) fun u s1 ⟨y, H1, J, ry, a, dx, fs, ey, ea, l, z⟩ => ?_) ht
  subst ey
  cases (show u = Value.ref a from ry)
  exact getmeth_ok J ea c hm l (PySem.W.callWith_K (first := [.ref a]) (h₀ := X.base) I.ok.mod.kin hm.kp (thn (ha.run pos pins s1 σ H1 _ J z) fun us s2 ⟨vs, H2, J2, r, z2⟩ => ⟨J2.kIn, runG (us := .ref a :: us) (vs := .ref a :: vs) F gd hr hb hd hx J2 (.cons rfl r) z2⟩) hst hpl)⟩
theorem pe_meth0G {pl : Sem Bool} (he : PE X o ta) (c : Cls X.K C) (hm : Meth X.K C m f) (F : FnG X.prog X.w X.K X.mg X.base cx k f fd ps sp) (gd : X.A.guards = some []) (hr : Room k X.A) (hb : Binds X.K fd ps ds) (hd : Vals dvs ds) (hx : Passes cx X E)
    (ht : eval (.Call (.Attribute o m apos) [] [] pos) X.env = (do
      let u ← eval o X.env
      standAt apos.atName
      let (g, one) ← holding [u] (getMethod u m pl)
      callWith pos g one (backTo pos (starEach [] X.env)) (backToKw pos (keywordEach [] X.env))) := by rfl) : PE X (.Call (.Attribute o m apos) [] [] pos) (tMeth C m sp dvs E ta tNil) := ⟨fun pins s σ H Q I h => by
  refine PySem.W.methodCall_KW (pl := pl) (thn (he.run pins s σ H _ I h) fun u s1 ⟨y, H1, J, ry, a, dx, fs, ey, ea, l, z⟩ => ?_) ht
  subst ey
  cases (show u = Value.ref a from ry)
  exact getmeth_ok J ea c hm l (PySem.W.callWith_K0 (first := [.ref a]) J.kIn hm.kp (runG (us := [.ref a]) (vs := [.ref a]) F gd hr hb hd hx J (.cons rfl .nil) z))⟩
theorem pe_propG {n : Str} (he : PE X e ta) (c : Cls X.K C) (hp : PropOf X.K C n p f) (F : FnG X.prog X.w X.K X.mg X.base cx k f fd ps sp) (gd : X.A.guards = some []) (hr : Room (k + 1) X.A) (hb : Binds X.K fd ps ds) (hd : Vals dvs ds) (hx : Passes cx X.nox E)
    (hab : attributeBase e n X.env (eval e X.env) = eval e X.env) : PE X (.Attribute e n pos) (tProp C sp dvs E ta) := ⟨fun pins s σ H Q I0 h0 => by
  refine attr_of hab (thn (he.run pins s σ H _ I0 h0) fun u s1 ⟨y, H1, I, ry, a, dx, fs, ey, ea, h⟩ => ?_)
  subst ey
  cases (show u = Value.ref a from ry)
  obtain ⟨mA, O, _, _, _, _⟩ := ins_get I.hok ea
  obtain ⟨od, J, _⟩ := O.look
  obtain ⟨rest, hrec⟩ := hp.rec_
  have I1 := I.tok (s1.toks + 1)
  have r2 : Vals (V.ref a :: dvs) (Value.ref a :: ds) := .cons rfl hd
  have l2 : ([Value.ref a] ++ ds).length = ps.length := r2.length.symm.trans (F.len _ _ _ _ h)
  obtain ⟨cd, hc, _⟩ := PySem.W.any_some c.hd
  have hc2 : (PySem.W.clsIn X.K C).isSome = true := by rw [hc]; rfl
  have pg := PySem.W.plainGet_of (c.get n)
  refine PySem.W.get_bind I.kIn J pg.1 (PySem.W.findObj_data hc2 hp.at_ hp.get hp.tak) pg.2 (wpAny_call (PySem.W.prop_get (s := { s1 with toks := s1.toks + 1 }) I.kIn hrec
    (codeAny_mono (F.run X.A.in1 X.stack { s1 with toks := s1.toks + 1 } H1 ⟨[.ref a], []⟩ _ _ Q E hr.in1 gd I1.env0.in1 (hb _ [.ref a] I1.kIn l2) r2 h) fun fin s2 z => ?_)))
  match fin, z with
  | .error w, z => exact (hx pins σ H1 { s1 with toks := s1.toks + 1 } w s2 (I1.wish _) z).elim
  | .ok (.ret w), z =>
    obtain ⟨v, H2, I3, rv, q3⟩ := I1.after z
    show wpAny _ _ (handedOut w) _ _ _
    rw [PySem.W.handedOut_of (handed_of rv)]
    exact wpAny_pure ⟨v, H2, I3, rv, q3⟩⟩
end
/-! ### promises -/
/-- __init__: from an empty instance to its fields -/
def SpsI (x : Str) {ι ο : Type} (P : Par ι) (m : ι → Out ο) (R : Fls ο) (K : PySem.W.Frag) : Sp := fun vs H Q E => ∃ (i : ι) (F : Hp) (p dx : Addr) (ws : List V), vs = .ref p :: ws ∧ Same F H ∧ F p = none ∧ H p = some (.ins (He.ga K x) dx []) ∧ P.rel K F ws i ∧
  Post (m i) (fun o => ∀ F' H' us, SW (fun q => q = p) F H F' H' → F' p = none → H' p = some (.ins (He.ga K x) dx (R.names.zip us)) → FaV K F' us (R.fvs o) → Q .non H') (fun e => ∀ cls d F' H', SW (fun q => q = p) F H F' H' → ErrOk K F' e cls d → E cls d H')
section
variable {Pr : Program} {w : World} {K : PySem.W.Frag} {mg : Str → Option Value} {base : Heap} {y qual x : Str} {params : Arguments} {body : List Stmt} {scope : Scope} {dvs : List V} {kws : List (Str × V)} {f : Addr} {fd : FuncData}
variable {ι ο : Type} {P : Par ι} {m : ι → Out ο} {R : Fls ο} {N ps : List Str} {k : Nat}
theorem env_startI {i : ι} {vs : List V} {F H : Hp} {p dx : Addr} (hF : Same F H) (hp : F p = none) (hH : H p = some (.ins (He.ga K x) dx [])) (hr : P.rel K F vs i) (hN : P.n + 1 ≤ N.length) :
    EnvOk K ⟨F, H, fun q => q = p⟩ (.on _ (oRec x p dx []) () :: P.slots i ++ anyS (N.length - (P.n + 1))) (L2.start N (.ref p :: vs)) F H (fun q => if q = p then some 0 else none) := by
  have hl := P.len hr
  refine ⟨SW.refl hF, ?_, fun q j h => ?_, fun j s h => ?_⟩
  · unfold L2.start
    rw [List.length_append, List.length_append, List.length_map, List.length_replicate, List.length_cons, List.length_cons, P.slen, anyS_len, hl]
  · by_cases c : q = p
    · subst c
      exact ⟨hp, (by rw [hH]; exact fun z => nomatch z), .inr rfl⟩
    · simp only [if_neg c] at h
      cases h
  · cases j with
    | zero =>
      simp only [List.cons_append, List.getElem?_cons_zero, Option.some.injEq] at h
      subst h
      exact ⟨.ref p, rfl, [], rfl, if_pos rfl, hH, .nil⟩
    | succ j =>
      by_cases c : j < P.n
      · simp only [List.cons_append, List.getElem?_cons_succ] at h
        rw [List.getElem?_append_left (by rw [P.slen]; exact c)] at h
        have q := P.ok hr H (fun a => (if a = p then some 0 else none) = some (j + 1)) j s h
        have e : (L2.start N (.ref p :: vs))[j + 1]?.join = vs[j]? := (start_get (j + 1) (by rw [List.length_cons, hl]; omega)).trans rfl
        rw [e]
        exact q
      · simp only [List.cons_append, List.getElem?_cons_succ] at h
        rw [List.getElem?_append_right (by rw [P.slen]; omega)] at h
        rw [anyS_get _ _ _ h]
        trivial
theorem fn_bodyI (F : FunD K y qual params body scope dvs kws f fd) (S : FnScope N ps scope) (hn : P.n + 1 = ps.length) (hN : P.n + 1 ≤ N.length)
    (h : ∀ (X : Cx) (E : XK) (B : Bs) (p dx : Addr) (i : ι), X.prog = Pr → X.w = w → X.K = K → X.mg = mg → X.base = base → XC X N ⟨scope, scope⟩ k E → WS X E B (.on _ (oRec x p dx []) () :: P.slots i ++ anyS (N.length - (P.n + 1))) [body] (m i) (fun o => .nx (.on _ (oRec x p dx (R.fvs o)) () :: anyS (N.length - 1)))) :
    FnG Pr w K mg base (L2.CX Pr w) (k + 1) f fd ps (SpsI x P m R K) := by
  refine okG F S (fun vs H Q E ⟨i, F0, p, dx, ws, e, _, _, _, r, _⟩ => by rw [e, List.length_cons, P.len r]; exact hn) fun cdv A outer s H vs Q E hg hr ⟨i, F0, p, dx, ws, e, hF, hp, hH, r, po⟩ => ?_
  subst e
  obtain ⟨t, pt, ht⟩ := h (cxOf (L2.CX Pr w) Pr w K mg base N qual scope f cdv A outer s H E) E ⟨F0, H, fun q => q = p⟩ p dx i rfl rfl rfl rfl rfl (xc_def S.nd hg hr) (L2.start N (.ref p :: ws)) F0 H _ { nx := fun _ H' => Q .non H', rt := Q } (env_startI hF hp hH r hN)
    (po.mono (fun o q σ F' H' ω' _ en => by
      obtain ⟨v, _, us, _, hw, hu, ru⟩ := en.slot 0 _ rfl
      rw [R.nm o] at hu
      exact q F' H' us en.base (en.own p 0 hw).1 hu ru) fun x q cls d F' H' s e => q cls d F' H' s e)
  exact ⟨t, pt, ht⟩
end
/-! ### calls -/
/-- C(..): by its name, its level -/
def MkD (Pr : Program) (w : World) (K : PySem.W.Frag) (mg : Str → Option Value) (base : Heap) (k : Nat) (x : Str) (ps : List Str) (dvs : List V) (sp : Sp) : Prop :=
  ∃ (f : Addr) (fd : FuncData) (ds : List Value), FnG Pr w K mg base (L2.CX Pr w) k f fd ps sp ∧ mg x = some (.ref (He.ga K x)) ∧ Mk K (He.ga K x) f ∧ Binds K fd ps ds ∧ Vals dvs ds
abbrev MkX (X : Cx) (k : Nat) (x : Str) (ps : List Str) (dvs : List V) (sp : Sp) : Prop := MkD X.prog X.w X.K X.mg X.base k x ps dvs sp
/-- a method of a class -/
def MeD (Pr : Program) (w : World) (K : PySem.W.Frag) (mg : Str → Option Value) (base : Heap) (k : Nat) (x m : Str) (ps : List Str) (dvs : List V) (sp : Sp) : Prop :=
  ∃ (f : Addr) (fd : FuncData) (ds : List Value), FnG Pr w K mg base (L2.CX Pr w) k f fd ps sp ∧ Meth K (He.ga K x) m f ∧ Binds K fd ps ds ∧ Vals dvs ds
abbrev MeX (X : Cx) (k : Nat) (x m : Str) (ps : List Str) (dvs : List V) (sp : Sp) : Prop := MeD X.prog X.w X.K X.mg X.base k x m ps dvs sp
/-- a property of a class -/
def PrD (Pr : Program) (w : World) (K : PySem.W.Frag) (mg : Str → Option Value) (base : Heap) (k : Nat) (x m : Str) (ps : List Str) (sp : Sp) : Prop :=
  ∃ (f p : Addr) (fd : FuncData), FnG Pr w K mg base (L2.CX Pr w) k f fd ps sp ∧ PropOf K (He.ga K x) m p f ∧ Binds K fd ps []
abbrev PrX (X : Cx) (k : Nat) (x m : Str) (ps : List Str) (sp : Sp) : Prop := PrD X.prog X.w X.K X.mg X.base k x m ps sp
/-- what does not end by an error -/
def noErr {α : Type} : Out α → Out α
  | .err _ => .stuck
  | m => m
variable {X : Cx} {N : List Str} {sc : Scp} {k : Nat} {E : XK} {B : Bs} {Γ : List Slot}
section
variable {ι ο β : Type} {P : Par ι} {mf : ι → Out ο} {mg : ι → Out β} {R : Fls ο} {T : Ty β} {O : Own β} {j : Nat} {x n : Str} {ps : List Str} {dvs : List V} {e o : Expr} {es : List Expr} {m : Out ο} {mb : Out β} {p pos apos : Pos} {cF : PySem.W.Frag → Hp → Hp → List V → Out β → Prop}
theorem we_make (C : XC X N sc k E) (G : MkX X j x ps dvs (SpsI x P mf R X.K)) (hk : j + 1 ≤ k) (ha : WAc X E B Γ (e :: es) (CallC P mf dvs) m) (hg : GlN sc x := by rfl) (hdb : (x == ("__debug__" : Str)) = false := by decide)
    (he : starEach (e :: es) X.env = (false, eval e X.env) :: starEach es X.env := by rfl) (hpl : (backTo pos (starEach es X.env)).any (·.1) = false := by rfl) : WE X E B Γ (.Call (.Name x p) (e :: es) [] pos) (tRec x R).rl m := fun σ F H ω Q en q => by
  obtain ⟨f, fd, ds, G, gm, M, hb, hd⟩ := G
  refine ⟨_, pe_makeG M G C.gd (C.room.mono hk) (gl_ C hg) gm hb hd C.pass pa_s hdb he hpl, ha σ F H ω _ _ en q fun vs F1 H1 o s ⟨i, eo, r⟩ po => fun a dx na nd ne => ?_⟩
  subst eo
  have sF : Same F1 (upd (upd H1 dx (.own a)) a (.ins (He.ga X.K x) dx [])) := fun b u z => by
    have z1 := s.fh b u z
    rw [upd_ne (ne_of_none z1 na), upd_ne (ne_of_none z1 nd)]
    exact z1
  have up : ∀ {F2 H2 : Hp}, SW (fun q => q = a) F1 (upd (upd H1 dx (.own a)) a (.ins (He.ga X.K x) dx [])) F2 H2 → Stp F1 H1 F2 H2 := fun {F2 H2} w => ⟨w.ff, w.fh, fun b u z => w.hh b u (by
    rw [upd_ne (ne_of_none z na), upd_ne (ne_of_none z nd)]
    exact z) (ne_of_none z na), fun b z1 z2 => w.old b z1 (by
    have n1 : b ≠ a := fun e => z2 (e ▸ na)
    have n2 : b ≠ dx := fun e => z2 (e ▸ nd)
    rw [upd_ne n1, upd_ne n2]
    exact z2)⟩
  refine ⟨i, F1, a, dx, vs ++ dvs, rfl, sF, s.fh.free na, upd_same, r, po.mono (fun o q F2 H2 us w np hp ru => ⟨rfl, ?_⟩) fun x h cls d F2 H2 w ee => err_up en s h cls d F2 H2 (up w) ee⟩
  have s2 := up w
  have sm : Same F2 (upd F2 a (.ins (He.ga X.K x) dx (R.names.zip us))) := fun b u z => by
    rw [upd_ne (ne_of_none z np)]
    exact z
  refine q (.ref a) _ H2 (s.trans ⟨s2.ff.trans sm, fun b u z => ?_, s2.hh, fun b z1 z2 => ?_⟩) ⟨a, dx, us, rfl, upd_same, ru.up sm⟩
  · by_cases c : b = a
    · subst c
      rw [upd_same] at z
      cases z
      exact hp
    · rw [upd_ne c] at z
      exact s2.fh b u z
  · have n1 : b ≠ a := fun e => z2 (by rw [e]; exact na)
    rw [upd_ne n1]
    exact s2.old b z1 z2
/-- the arguments of a method: self, then the written ones -/
def CallM (x : Str) {ο : Type} (R : Fls ο) (a : ο) {ι β : Type} (P : Par ι) (mf : ι → Out β) (dvs : List V) (K : PySem.W.Frag) (F H : Hp) (vs : List V) (o : Out β) : Prop := ∀ v, (tRec x R).rel K F v a → CallC P mf dvs K F H (v :: vs) o
end
section
variable {ι ο β : Type} {P : Par ι} {mf : ι → Out β} {R : Fls ο} {T : Ty β} {O : Own β} {j : Nat} {x n : Str} {ps : List Str} {dvs : List V} {e o : Expr} {es : List Expr} {m : Out ο} {f : ο → Out β} {p pos apos : Pos}
theorem rec_no {K : PySem.W.Frag} {F H : Hp} {v : V} {a : ο} (s : Same F H) (h : (tRec x R).rel K F v a) (hn : n ∉ R.names) : ∃ p dx fs, v = .ref p ∧ H p = some (.ins (He.ga K x) dx fs) ∧ fs.lookup n = none := by
  obtain ⟨p, dx, vs, e, h, _⟩ := h
  exact ⟨p, dx, _, e, s _ _ h, lookup_zip_none hn⟩
/-- o.m(..) -/
theorem we_meth (C : XC X N sc k E) (DC : ClsF X.K x R.names) (G : MeX X j x n ps dvs (Sps P mf T X.K)) (hk : j ≤ k) (ho : WE X E B Γ o (tRec x R).rl m) (ha : ∀ a, WAc X E B Γ (e :: es) (CallM x R a P mf dvs) (f a)) (hn : n ∉ R.names := by decide)
    (hst : starEach (e :: es) X.env = (false, eval e X.env) :: starEach es X.env := by rfl) (hpl : (backTo pos (starEach es X.env)).any (·.1) = false := by rfl) {pl : Sem Bool}
    (ht : eval (.Call (.Attribute o n apos) (e :: es) [] pos) X.env = (do
      let u ← eval o X.env
      standAt apos.atName
      let (g, one) ← holding [u] (getMethod u n pl)
      callWith pos g one (backTo pos (starEach (e :: es) X.env)) (backToKw pos (keywordEach [] X.env))) := by rfl) : WE X E B Γ (.Call (.Attribute o n apos) (e :: es) [] pos) T.rl (m >>= f) := fun σ F H ω Q en q => by
  obtain ⟨g, fd, ds, G, M, hb, hd⟩ := G
  refine ⟨_, pe_methG pe_s DC.cls M G C.gd (C.room.mono hk) hb hd C.pass pa_s hst hpl ht, ho σ F H ω _ en (q.bind.imp fun a q v F1 H1 s1 r => ?_)⟩
  obtain ⟨p, dx, fs, e, hp, hl⟩ := rec_no s1.fh r hn
  refine ⟨p, dx, fs, e, hp, hl, ha a σ F1 H1 ω _ _ (en.stp s1) q fun vs F2 H2 o s2 hc po => ?_⟩
  exact sps_of (vs := v :: vs) en (s1.trans s2) (hc v ((tRec x R).mono s2.ff r)) po
theorem wo_meth (C : XC X N sc k E) (DC : ClsF X.K x R.names) (G : MeX X j x n ps dvs (SpsO P mf O X.K)) (hk : j ≤ k) (ho : WE X E B Γ o (tRec x R).rl m) (ha : ∀ a, WAc X E B Γ (e :: es) (CallM x R a P mf dvs) (f a)) (hn : n ∉ R.names := by decide)
    (hst : starEach (e :: es) X.env = (false, eval e X.env) :: starEach es X.env := by rfl) (hpl : (backTo pos (starEach es X.env)).any (·.1) = false := by rfl) {pl : Sem Bool}
    (ht : eval (.Call (.Attribute o n apos) (e :: es) [] pos) X.env = (do
      let u ← eval o X.env
      standAt apos.atName
      let (g, one) ← holding [u] (getMethod u n pl)
      callWith pos g one (backTo pos (starEach (e :: es) X.env)) (backToKw pos (keywordEach [] X.env))) := by rfl) : WO X E B Γ (.Call (.Attribute o n apos) (e :: es) [] pos) O (m >>= f) := fun σ F H ω Q en q => by
  obtain ⟨g, fd, ds, G, M, hb, hd⟩ := G
  refine ⟨_, pe_methG pe_s DC.cls M G C.gd (C.room.mono hk) hb hd C.pass pa_s hst hpl ht, ho σ F H ω _ en (q.bind.imp fun a q v F1 H1 s1 r => ?_)⟩
  obtain ⟨p, dx, fs, e, hp, hl⟩ := rec_no s1.fh r hn
  refine ⟨p, dx, fs, e, hp, hl, ha a σ F1 H1 ω _ _ (en.stp s1) (q.imp fun b q v F' H' S s d r => q v F' H' S (s1.trans s) (new_of s1 d) r) fun vs F2 H2 o s2 hc po => ?_⟩
  exact spsO_of (vs := v :: vs) (en.stp s1) s2 (hc v ((tRec x R).mono s2.ff r)) po
/-- o.m() -/
theorem we_meth0 (C : XC X N sc k E) (DC : ClsF X.K x R.names) (G : MeX X j x n ps dvs (Sps P mf T X.K)) (hk : j ≤ k) (ho : WE X E B Γ o (tRec x R).rl m) (ha : ∀ a K F H, CallM x R a P mf dvs K F H [] (f a)) (hn : n ∉ R.names := by decide) {pl : Sem Bool}
    (ht : eval (.Call (.Attribute o n apos) [] [] pos) X.env = (do
      let u ← eval o X.env
      standAt apos.atName
      let (g, one) ← holding [u] (getMethod u n pl)
      callWith pos g one (backTo pos (starEach [] X.env)) (backToKw pos (keywordEach [] X.env))) := by rfl) : WE X E B Γ (.Call (.Attribute o n apos) [] [] pos) T.rl (m >>= f) := fun σ F H ω Q en q => by
  obtain ⟨g, fd, ds, G, M, hb, hd⟩ := G
  refine ⟨_, pe_meth0G pe_s DC.cls M G C.gd (C.room.mono hk) hb hd C.pass ht, ho σ F H ω _ en (q.bind.imp fun a q v F1 H1 s1 r => ?_)⟩
  obtain ⟨p, dx, fs, e, hp, hl⟩ := rec_no s1.fh r hn
  exact ⟨p, dx, fs, e, hp, hl, sps_of (vs := [v]) en s1 (ha a _ _ H1 v r) q⟩
theorem noErr_ok {m : Out β} {P : β → Prop} {J : Err → Prop} (h : Post (noErr m) P J) : Post m P fun _ => False := by
  cases m with
  | ok a => exact h
  | err x => exact h.elim
  | stuck => exact h
/-- o.n, a property -/
theorem we_prop {nf : List Str} (C : XC X N sc k E) (DC : ClsF X.K x nf) (G : PrX X j x n ps (Sps (pC (tRec x R) pN) (fun i => f i.1) T X.K)) (hk : j + 1 ≤ k) (ho : WE X E B Γ o (tRec x R).rl m) (hb : attributeBase o n X.env (eval o X.env) = eval o X.env := by rfl) :
    WE X E B Γ (.Attribute o n pos) T.rl (m >>= fun a => noErr (f a)) := fun σ F H ω Q en q => by
  obtain ⟨g, p, fd, G, M, hbi⟩ := G
  refine ⟨_, pe_propG (E := E0) pe_s DC.cls M G C.gd (C.room.mono hk) hbi .nil passL hb, ho σ F H ω _ en (q.bind.imp fun a q v F1 H1 s1 r => ?_)⟩
  obtain ⟨p, dx, vs, e, hp, r2⟩ := id r
  refine ⟨p, dx, _, e, s1.fh _ _ hp, (a, ()), F1, s1.fh, ⟨v, [], by rw [e], r, rfl⟩, ?_⟩
  exact (noErr_ok q).mono (fun b q v F2 H2 s2 r2 => q v F2 H2 (s1.trans s2) r2) fun x z => z.elim
end
end SL

set_option Elab.async false
set_option linter.all false
set_option maxRecDepth 100000
set_option maxHeartbeats 2000000
/-! TCc: what the top leaves: classes, their methods and properties. -/
namespace SL
open PySem PySem.Spec PyProof.Rows L2
/-- the statement with this number in a class's body -/
def clsAt (s : Stmt) (j : Nat) : Stmt := match s with
  | .ClassDef _ _ _ b _ _ _ _ _ _ _ => b.getD j (.Pass ⟨0, 0, 0, 0⟩)
  | _ => .Pass ⟨0, 0, 0, 0⟩
def propB (K : PySem.W.Frag) (x f : Str) : Bool :=
  He.eqO (PySem.W.findIn K (.ref (He.ga K x)) f) (some (some (.ref (He.ma K (He.ga K x) f)))) && (He.eqO (PySem.W.specialIn K (.ref (He.ma K (He.ga K x) f)) "__get__") (some (some (.builtin "property.__get__"))) &&
    (decide (PySem.W.takesIn K (.ref (He.ma K (He.ga K x) f)) = some true) && (match PySem.W.recIn K (He.ma K (He.ga K x) f) "property" with
      | some (.ref _ :: _) => true
      | _ => false)))
theorem propB_ok {K : PySem.W.Frag} {x f : Str} (h : propB K x f = true) : PropOf K (He.ga K x) f (He.ma K (He.ga K x) f) (He5.wf K (He.ga K x) "property" f) := by
  obtain ⟨h1, h⟩ := He.ba h
  obtain ⟨h2, h⟩ := He.ba h
  obtain ⟨h3, h4⟩ := He.ba h
  refine ⟨He.eqO_ok h1, He.eqO_ok h2, of_decide_eq_true h3, ?_⟩
  unfold He5.wf
  split at h4
  · rename_i g r e
    exact ⟨r, by rw [e]⟩
  · cases h4
theorem clsF_ok {K : PySem.W.Frag} {x : Str} {nf : List Str} (c : (He.Fa.cls x).ok K = true) (n : ∀ f ∈ nf, (He.Fa.noat x f).ok K = true) : ClsF K x nf := ⟨He.cls_ok c, fun f h => He.noat_ok (n f h)⟩
/-! ### the Hook -/
abbrev AlE : Type := He.AlD × Bool
def obsE (fa : List He.Fa) (fn : List He5.DefA) (ex : PySem.W.Frag → Bool) (K : PySem.W.Frag) : AlE := (He5.obsA fa fn K, ex K)
def valE (fn : List He5.DefA) : AlE := (He5.valA fn, true)
def SaysE (fa : List He.Fa) (fn : List He5.DefA) (ex : PySem.W.Frag → Bool) (K : PySem.W.Frag) : Prop := obsE fa fn ex K = valE fn
def obsEG (n : Nat) (fa : List He.Fa) (fn : List He5.DefA) (ex : PySem.W.Frag → Bool) (g : Addr → Option Obj) : AlE := obsE fa fn ex (He.frG g (He.asD g n))
def hookE (n : Nat) (fa : List He.Fa) (fn : List He5.DefA) (ex : PySem.W.Frag → Bool) : PySem.W.Hook where
  α := AlE
  obs := fun s => obsEG n fa fn ex s.heap.get?
  val := fun _ => valE fn
  says := fun _ h => ∃ K : PySem.W.Frag, K.In h ∧ SaysE fa fn ex K
  of := fun _ _ e => ⟨_, He.frG_in, e⟩
  keeps := fun _ _ _ ⟨K, hK, c⟩ k => ⟨K, PySem.W.Frag.In.keeps hK k, c⟩
theorem obsEG_eq {n : Nat} {fa : List He.Fa} {fn : List He5.DefA} {ex : PySem.W.Frag → Bool} {g : Addr → Option Obj} {s : Shared} (h : ∀ a, g a = s.heap.get? a) : obsEG n fa fn ex g = (hookE n fa fn ex).obs s := by
  have e : g = s.heap.get? := funext h
  rw [e] <;> rfl
theorem SaysE.a {fa : List He.Fa} {fn : List He5.DefA} {ex : PySem.W.Frag → Bool} {K : PySem.W.Frag} (c : SaysE fa fn ex K) : He5.SaysA fa fn K := congrArg (fun z : AlE => z.1) c
theorem SaysE.e {fa : List He.Fa} {fn : List He5.DefA} {ex : PySem.W.Frag → Bool} {K : PySem.W.Frag} (c : SaysE fa fn ex K) : ex K = true := congrArg (fun z : AlE => z.2) c
end SL

set_option Elab.async false
set_option linter.all false
set_option maxRecDepth 100000
set_option maxHeartbeats 2000000
/-! TCd: walks over lists that are not fixed: lent ones, own ones within a comprehension. -/
namespace SL
open PySem PySem.Spec PyProof.Rows L2
variable {X : Cx} {N : List Str} {sc : Scp} {k : Nat} {E : XK} {B : Bs} {Γ : List Slot}
/-- a list that stands still while it is walked -/
def LS (K : PySem.W.Frag) (B : Bs) (st : Prop) (F0 H0 : Hp) (v : V) {α : Type} (T : Ty α) (a : List α) : Prop :=
  ∃ p vs, v = .ref p ∧ ∀ F H, Same F0 F → Same F H → SW B.W B.F B.H F H → (st → Same H0 H) → SqL K H p vs ∧ Fa2 (T.rel K F) vs a
def LsR (B : Bs) (st : Prop) {α : Type} (T : Ty α) (R : Rl (List α)) : Prop := ∀ K F H v a, Same F H → SW B.W B.F B.H F H → R.rel K F H v a → LS K B st F H v T a
theorem ls_fix {st : Prop} {α : Type} {T : Ty α} : LsR B st T (tLst T).rl := fun K F H v a s b ⟨p, vs, e, q, r⟩ => ⟨p, vs, e, fun F' H' sf sh _ _ => ⟨SqL.of (sh _ _ (sf _ _ q)), r.imp fun _ _ => T.mono sf⟩⟩
theorem ls_bor {st : Prop} {α : Type} {T : Ty α} : LsR B st T (tBor B (oLst T)).rl := fun K F H v a s b ⟨S, hS, p, vs, e, sp, q, r⟩ => ⟨p, vs, e, fun F' H' sf sh b' _ => ⟨SqL.of (b'.hh _ _ q (hS p sp).2), r.imp fun _ _ => T.mono b'.ff⟩⟩
theorem ls_rh {α : Type} {T : Ty α} : LsR B True T (rLstH T) := fun K F H v a s b ⟨p, vs, e, q, r⟩ => ⟨p, vs, e, fun F' H' sf sh _ k => ⟨SqL.of (k trivial _ _ q), r.imp fun _ _ => T.mono sf⟩⟩
theorem ls_rd {α : Type} {T : Ty α} : LsR B True T (rLst T) := fun K F H v a s b ⟨p, vs, e, q, r⟩ => ⟨p, vs, e, fun F' H' sf sh _ k => ⟨(k trivial).seq q, r.imp fun _ _ => T.mono sf⟩⟩
section
variable {tg e : Expr} {st : Prop} {α : Type} {T : Ty α} {R : Rl (List α)} {m : Out (List α)} {p pos tpos : Pos} {elts : List Expr} {kk : Nat}
theorem wi_ls (hR : LsR B st T R) (h : WE X E B Γ e R m) : WIg st X E B Γ tg e T m := fun σ F H ω W en q => by
  refine ⟨_, pi_list (pe_lenQ pe_s), ?_⟩
  refine h σ F H ω _ en (q.imp fun xs q v F1 H1 s1 r hl => ?_)
  obtain ⟨p, vs, e, g⟩ := hR _ _ _ _ _ s1.fh (en.base.stp s1) r
  obtain ⟨sq, ra⟩ := g F1 H1 (Same.refl _) s1.fh (en.base.stp s1) fun _ => Same.refl _
  refine ⟨p, e, ⟨vs, sq⟩, q _ F1 H1 s1 ⟨fun i F H hi sf sh b k => ⟨vs, vs[i]'(by rw [ra.len]; exact hi), (g F H sf sh b k).1, by simp⟩, fun F H sf sh b k => ⟨vs, (g F H sf sh b k).1, by rw [ra.len]; exact Nat.le_refl _⟩, fun i F H x H' hi sf sh b k y => ?_⟩ ?_⟩
  · obtain ⟨g1, g2⟩ := g F H sf sh b k
    obtain ⟨rfl, y⟩ := y
    obtain ⟨z, hz, rz⟩ := g2.getV (y vs g1)
    exact ⟨F, z, Stp.refl sh, hz, rz⟩
  · rw [← ra.len]
    exact sqL_len sq hl
theorem wi_enumLs (C : XC X N sc k E) (Z : Fre X.mg) (hR : LsR B st T R) (h : WE X E B Γ e R m) (hg : GlN sc "enumerate" := by rfl) (hs : starEach (e :: []) X.env = (false, eval e X.env) :: starEach [] X.env := by rfl) (hs2 : starEach [e] X.env = [(false, eval e X.env)] := by rfl) :
    WIg st X E B Γ (.Tuple elts kk tpos) (.Call (.Name "enumerate" p) [e] [] pos) (tT2 tInt T) (m >>= fun a => pure (enumL a)) := fun σ F H ω W en q => by
  refine ⟨_, pi_enum (gl_ C hg) Z.enumerate (pa_cons (pe_lenQ pe_s) pa_nil hs) hs2, ?_⟩
  refine h σ F H ω _ en (q.bind.imp fun xs q v F1 H1 s1 r hl => ?_)
  obtain ⟨p, vs, e, g⟩ := hR _ _ _ _ _ s1.fh (en.base.stp s1) r
  obtain ⟨sq, ra⟩ := g F1 H1 (Same.refl _) s1.fh (en.base.stp s1) fun _ => Same.refl _
  refine ⟨p, vs, by rw [e], sq, q _ F1 H1 s1 ⟨fun i F H hi sf sh b k => ⟨vs, vs[i]'(by rw [ra.len]; rw [enumL_len] at hi; exact hi), (g F H sf sh b k).1, by simp⟩, fun F H sf sh b k => ⟨vs, (g F H sf sh b k).1, by rw [ra.len, enumL_len]; exact Nat.le_refl _⟩, fun i F H x H' hi sf sh b k y => ?_⟩ ?_⟩
  · obtain ⟨g1, g2⟩ := g F H sf sh b k
    obtain ⟨D, x1, rfl, hD, rfl, hx⟩ := y
    obtain ⟨z, hz, rz⟩ := g2.getV (hx vs g1)
    obtain ⟨s2, r2⟩ := new_pair (T := tInt) (U := T) (v1 := .int (i : Nat)) (a := ((i : Nat) : Int)) sh hD rfl rz
    exact ⟨_, _, s2, enumL_get hz, r2⟩
  · rw [enumL_len, ← ra.len]
    exact sqL_len sq hl
end
/-! ### data read as pairs, triples -/
theorem as_t2 {α β : Type} {f : PyData → Out α} {g : PyData → Out β} {T : Ty α} {U : Ty β} (hf : As f T) (hg : As g U) : As (asT2 f g) (tT2 T U) where
  ok := fun d a e K F v h => by
    unfold asT2 at e
    split at e
    · rename_i x y
      cases h with
      | tup q r =>
        cases r with
        | cons r1 r =>
          cases r with
          | cons r2 r =>
            cases r
            cases ex : f x with
            | ok a1 =>
              cases ey : g y with
              | ok a2 =>
                rw [ex, ey] at e
                cases e
                exact ⟨_, _, _, rfl, q, hf.ok _ _ ex _ _ _ r1, hg.ok _ _ ey _ _ _ r2⟩
              | _ => rw [ex, ey] at e; cases e
            | _ => rw [ex] at e; cases e
    · cases e
  ne := fun d x e => by
    unfold asT2 at e
    split at e
    · split at e <;> cases e
    · cases e
def asT3 {α β γ : Type} (f : PyData → Out α) (g : PyData → Out β) (h : PyData → Out γ) : PyData → Out (α × β × γ)
  | .tuple [x, y, z] => match f x, g y, h z with
    | .ok a, .ok b, .ok c => .ok (a, b, c)
    | _, _, _ => .stuck
  | _ => .stuck
theorem as_t3 {α β γ : Type} {f : PyData → Out α} {g : PyData → Out β} {h : PyData → Out γ} {T : Ty α} {U : Ty β} {W : Ty γ} (hf : As f T) (hg : As g U) (hh : As h W) : As (asT3 f g h) (tT3 T U W) where
  ok := fun d a e K F v hd => by
    unfold asT3 at e
    split at e
    · rename_i x y z
      cases hd with
      | tup q r =>
        cases r with
        | cons r1 r =>
          cases r with
          | cons r2 r =>
            cases r with
            | cons r3 r =>
              cases r
              cases ex : f x with
              | ok a1 =>
                cases ey : g y with
                | ok a2 =>
                  cases ez : h z with
                  | ok a3 =>
                    rw [ex, ey, ez] at e
                    cases e
                    exact ⟨_, _, _, _, rfl, q, hf.ok _ _ ex _ _ _ r1, hg.ok _ _ ey _ _ _ r2, hh.ok _ _ ez _ _ _ r3⟩
                  | _ => rw [ex, ey, ez] at e; cases e
                | _ => rw [ex, ey] at e; cases e
              | _ => rw [ex] at e; cases e
    · cases e
  ne := fun d x e => by
    unfold asT3 at e
    split at e
    · split at e <;> cases e
    · cases e
/-- casts -/
theorem WIg.cast {st : Prop} {tg e : Expr} {α : Type} {T : Ty α} {m m' : Out (List α)} (h : WIg st X E B Γ tg e T m) (q : m = m') : WIg st X E B Γ tg e T m' := q ▸ h
end SL

set_option Elab.async false
set_option linter.all false
set_option maxRecDepth 100000
set_option maxHeartbeats 2000000
/-! TMa: plain outcomes that come to an end: Ok; arrays by place; sums. -/
namespace SM
open PySem PySem.Spec PyProof.Rows L2 SL
/-! ### Ok -/
def Ok {α : Type} (m : Out α) (P : α → Prop) : Prop := ∃ a, m = pure a ∧ P a
theorem ok_inj {α : Type} {a b : α} (h : (pure a : Out α) = pure b) : a = b := by
  have h2 : (Out.ok a : Out α) = Out.ok b := h
  injection h2
theorem ok_pure {α : Type} {a : α} {P : α → Prop} : Ok (pure a) P ↔ P a := ⟨fun ⟨b, e, h⟩ => by rw [ok_inj e]; exact h, fun h => ⟨a, rfl, h⟩⟩
theorem ok_ok {α : Type} {a : α} {P : α → Prop} : Ok (Out.ok a) P ↔ P a := ok_pure
theorem ok_bind {α β : Type} {m : Out α} {f : α → Out β} {P : β → Prop} : Ok (m >>= f) P ↔ Ok m fun a => Ok (f a) P := by
  constructor
  · rintro ⟨b, e, h⟩
    cases m with
    | ok a => exact ⟨a, rfl, b, e, h⟩
    | err x => cases e
    | stuck => cases e
  · rintro ⟨a, rfl, b, e, h⟩
    exact ⟨b, e, h⟩
theorem ok_if {α : Type} {c : Bool} {x y : Out α} {P : α → Prop} : Ok (if c = true then x else y) P ↔ (c = true → Ok x P) ∧ (c = false → Ok y P) := by
  cases c <;> simp
theorem Ok.imp {α : Type} {m : Out α} {P Q : α → Prop} (h : Ok m P) (f : ∀ a, P a → Q a) : Ok m Q := let ⟨a, e, p⟩ := h; ⟨a, e, f a p⟩
theorem Ok.and {α : Type} {m : Out α} {P Q : α → Prop} (h : Ok m P) (g : Ok m Q) : Ok m fun a => P a ∧ Q a := by
  obtain ⟨a, e, p⟩ := h
  obtain ⟨b, e2, q⟩ := g
  rw [e] at e2
  rw [← ok_inj e2] at q
  exact ⟨a, e, p, q⟩
theorem ok_of {α : Type} {m : Out α} {a : α} {P : α → Prop} (e : m = pure a) (h : P a) : Ok m P := ⟨a, e, h⟩
theorem Ok.eq {α : Type} {m : Out α} {a : α} (h : Ok m fun b => b = a) : m = pure a := let ⟨_, e, p⟩ := h; p ▸ e
theorem ok_eq {α : Type} {m : Out α} {a : α} : (Ok m fun b => b = a) ↔ m = pure a := ⟨Ok.eq, fun e => ⟨a, e, rfl⟩⟩
/-! ### loops -/
theorem ok_for {α S : Type} {f : S → α → Out S} {s0 : S} {xs : List α} {P : S → Prop} (I : Nat → S → Prop) (h0 : I 0 s0) (h : ∀ i s x, xs[i]? = some x → I i s → Ok (f s x) (I (i + 1))) (hf : ∀ s, I xs.length s → P s) : Ok (forO f xs s0) P := by
  obtain ⟨s', e, q⟩ := forO_inv0 I xs s0 h0 h
  exact ⟨s', e, hf s' q⟩
theorem ok_while {S : Type} {c : S → Out Bool} {f : S → Out S} {n : Nat} {s0 : S} {P : S → Prop} (I : Nat → S → Prop) (m : Nat) (hm : m < n) (h0 : I m s0)
    (h : ∀ m s, I m s → Ok (c s) fun b => (b = false → P s) ∧ (b = true → Ok (f s) fun s' => ∃ m', m' < m ∧ I m' s')) : Ok (whileO c f n s0) P := by
  obtain ⟨s', e, q⟩ := while_inv (c := c) (f := f) (Q := P) I (fun m s hi => by
    obtain ⟨b, e, h1, h2⟩ := h m s hi
    cases b with
    | false => exact .inl ⟨e, h1 rfl⟩
    | true =>
      obtain ⟨s', e2, m', lt, hi'⟩ := h2 rfl
      exact .inr ⟨m', lt, e, s', e2, hi'⟩) n m s0 hm h0
  exact ⟨s', e, q⟩
theorem ok_map {α β : Type} {f : α → Out β} {xs : List α} {P : List β → Prop} (g : α → β) (h : ∀ x ∈ xs, f x = pure (g x)) (hP : P (xs.map g)) : Ok (mapO f xs) P := ⟨_, mapO_ok xs h, hP⟩
theorem ok_comp {α β : Type} {c : α → Out Bool} {m : α → Out β} {xs : List α} {P : List β → Prop} (p : α → Bool) (g : α → β) (h1 : ∀ x ∈ xs, c x = pure (p x)) (h2 : ∀ x ∈ xs, p x = true → m x = pure (g x)) (hP : P ((xs.filter p).map g)) : Ok (compO (fun x => ifO (c x) (m x)) xs) P :=
  ⟨_, compO_ok xs h1 h2, hP⟩
/-- a loop that may return: no turn does -/
theorem ok_forR {α ρ S : Type} {f : S → α → Out (Step ρ S)} {xs : List α} {P : Step ρ S → Prop} : ∀ {s0 : S} (I : Nat → S → Prop), I 0 s0 → (∀ i s x, xs[i]? = some x → I i s → Ok (f s x) fun t => match t with
    | .nx s' => I (i + 1) s'
    | .rt r => P (.rt r)) → (∀ s, I xs.length s → P (.nx s)) → Ok (forR f xs s0) P := by
  induction xs with
  | nil => intro s0 I h0 _ hf; exact ok_pure.mpr (hf s0 h0)
  | cons x xs ih =>
    intro s0 I h0 h hf
    unfold forR
    refine ok_bind.mpr ((h 0 s0 x rfl h0).imp fun t ht => ?_)
    cases t with
    | nx s' => exact ih (fun i => I (i + 1)) ht (fun i s y hy hi => h (i + 1) s y (by simpa using hy) hi) fun s hs => hf s (by simpa using hs)
    | rt r => exact ok_pure.mpr ht
/-- no turn returns or changes anything -/
theorem forR_go {α ρ : Type} {f : Unit → α → Out (Step ρ Unit)} {xs : List α} (h : ∀ x ∈ xs, f () x = pure (Step.nx ())) : forR f xs () = pure (Step.nx ()) := by
  induction xs with
  | nil => rfl
  | cons x xs ih =>
    unfold forR
    rw [h x (by simp)]
    exact ih fun y hy => h y (by simp [hy])
/-- two loops at once -/
theorem for_two {α S U : Type} {f : S → α → Out S} {g : U → α → Out U} {s0 : S} {u0 : U} {xs : List α} (I : Nat → S → U → Prop) (h0 : I 0 s0 u0) (h : ∀ i s u x, xs[i]? = some x → I i s u → Ok (f s x) fun s' => Ok (g u x) fun u' => I (i + 1) s' u') :
    Ok (forO f xs s0) fun s => Ok (forO g xs u0) fun u => I xs.length s u := by
  induction xs generalizing s0 u0 I with
  | nil => exact ok_pure.mpr (ok_pure.mpr h0)
  | cons x xs ih =>
    unfold forO
    obtain ⟨s1, e1, u1, e2, h1⟩ := h 0 s0 u0 x rfl h0
    rw [e1, e2, pbind, pbind]
    exact ih (fun i => I (i + 1)) h1 fun i s u y hy hi => h (i + 1) s u y (by simpa using hy) hi
/-! ### arrays -/
def gA {α : Type} [Inhabited α] (xs : List α) (k : Nat) : α := xs.getD k default
section
variable {α : Type} [Inhabited α]
theorem gA_some {xs : List α} {k : Nat} (h : k < xs.length) : xs[k]? = some (gA xs k) := by
  unfold gA
  rw [List.getElem?_eq_getElem h, List.getD_eq_getElem?_getD, List.getElem?_eq_getElem h]
  rfl
theorem gA_of {xs : List α} {k : Nat} {a : α} (h : xs[k]? = some a) : gA xs k = a := by
  unfold gA
  rw [List.getD_eq_getElem?_getD, h]
  rfl
theorem gA_out {xs : List α} {k : Nat} (h : xs.length ≤ k) : gA xs k = default := by
  unfold gA
  rw [List.getD_eq_getElem?_getD, List.getElem?_eq_none h]
  rfl
theorem gA_mem {xs : List α} {k : Nat} (h : k < xs.length) : gA xs k ∈ xs := List.mem_of_getElem? (gA_some h)
theorem idx_gA {xs : List α} {k : Nat} (h : k < xs.length) : idx xs (k : Int) = pure (gA xs k) := idx_nat (gA_some h)
theorem idx_at {xs : List α} {i : Int} (h0 : 0 ≤ i) (h : i < xs.length) : idx xs i = pure (gA xs i.toNat) := by
  have := idx_gA (xs := xs) (k := i.toNat) (by omega)
  rwa [Int.toNat_of_nonneg h0] at this
theorem gA_set {xs : List α} {i j : Nat} {a : α} (h : i < xs.length) : gA (xs.set i a) j = if i = j then a else gA xs j := by
  by_cases c : i = j
  · subst c
    rw [if_pos rfl]
    exact gA_of (List.getElem?_set_self h)
  · rw [if_neg c]
    unfold gA
    rw [List.getD_eq_getElem?_getD, List.getD_eq_getElem?_getD, List.getElem?_set_ne c]
theorem gA_app_l {xs ys : List α} {k : Nat} (h : k < xs.length) : gA (xs ++ ys) k = gA xs k := by
  unfold gA
  rw [List.getD_eq_getElem?_getD, List.getD_eq_getElem?_getD, List.getElem?_append_left h]
theorem gA_app_r {xs ys : List α} {k : Nat} (h : xs.length ≤ k) : gA (xs ++ ys) k = gA ys (k - xs.length) := by
  unfold gA
  rw [List.getD_eq_getElem?_getD, List.getD_eq_getElem?_getD, List.getElem?_append_right h]
theorem gA_rep {n k : Nat} {a : α} (h : k < n) : gA (List.replicate n a) k = a := gA_of (by simp [h])
theorem gA_map {β : Type} [Inhabited β] {f : α → β} {xs : List α} {k : Nat} (h : k < xs.length) : gA (xs.map f) k = f (gA xs k) := gA_of (by rw [List.getElem?_map, gA_some h]; rfl)
theorem gA_ext {xs ys : List α} (hl : xs.length = ys.length) (h : ∀ k, k < xs.length → gA xs k = gA ys k) : xs = ys := by
  refine List.ext_getElem? fun k => ?_
  by_cases c : k < xs.length
  · rw [gA_some c, gA_some (by omega), h k c]
  · rw [List.getElem?_eq_none (by omega), List.getElem?_eq_none (by omega)]
theorem gA_rev {xs : List α} {k : Nat} (h : k < xs.length) : gA xs.reverse k = gA xs (xs.length - 1 - k) := gA_of (by rw [List.getElem?_reverse h]; exact gA_some (by omega))
end
theorem gA_upto {n k : Nat} (h : k < n) : gA (upto n) k = (k : Int) := gA_of (upto_get h)
theorem setO_gA {α : Type} {xs : List α} {k : Nat} {x : α} (h : k < xs.length) : setO xs (k : Int) x = pure (xs.set k x) := setO_nat h
theorem setO_at {α : Type} {xs : List α} {i : Int} {x : α} (h0 : 0 ≤ i) (h : i < xs.length) : setO xs i x = pure (xs.set i.toNat x) := by
  have := setO_nat (xs := xs) (k := i.toNat) (x := x) (by omega)
  rwa [Int.toNat_of_nonneg h0] at this
theorem range_ok {n : Int} (h : n ≤ 16777216) (h0 : 0 ≤ n) : rangeO n = pure (upto n.toNat) := by
  have := rangeO_nat (n := n.toNat) (by omega)
  rwa [Int.toNat_of_nonneg h0] at this
theorem noErr_pure {α : Type} (a : α) : noErr (pure a) = pure a := rfl
theorem upto_map {β : Type} (f : Int → β) (n : Nat) : (upto n).map f = (List.range n).map (fun (k : Nat) => f (k : Int)) := by
  unfold upto
  rw [List.map_map]
  rfl
theorem map_const {α β : Type} (b : β) (xs : List α) : xs.map (fun _ => b) = List.replicate xs.length b := by
  induction xs with
  | nil => rfl
  | cons x xs ih => rw [List.map_cons, ih, List.length_cons, List.replicate_succ]
/-! ### sums -/
def sumTo (n : Nat) (f : Nat → Int) : Int := match n with
  | 0 => 0
  | n + 1 => sumTo n f + f n
theorem sumTo_congr {f g : Nat → Int} : ∀ {n : Nat}, (∀ k, k < n → f k = g k) → sumTo n f = sumTo n g
  | 0, _ => rfl
  | n + 1, h => by
    unfold sumTo
    rw [sumTo_congr fun k hk => h k (by omega), h n (by omega)]
theorem sumTo_add {f g : Nat → Int} : ∀ n : Nat, sumTo n (fun k => f k + g k) = sumTo n f + sumTo n g
  | 0 => rfl
  | n + 1 => by
    unfold sumTo
    rw [sumTo_add n]
    omega
theorem sumTo_sub {f g : Nat → Int} : ∀ n : Nat, sumTo n (fun k => f k - g k) = sumTo n f - sumTo n g
  | 0 => rfl
  | n + 1 => by
    unfold sumTo
    rw [sumTo_sub n]
    omega
theorem sumTo_mul {f : Nat → Int} (c : Int) : ∀ n : Nat, sumTo n (fun k => c * f k) = c * sumTo n f
  | 0 => by simp [sumTo]
  | n + 1 => by
    unfold sumTo
    rw [sumTo_mul c n, Int.mul_add]
theorem sumTo_mulr {f : Nat → Int} (c : Int) : ∀ n : Nat, sumTo n (fun k => f k * c) = sumTo n f * c
  | 0 => by simp [sumTo]
  | n + 1 => by
    unfold sumTo
    rw [sumTo_mulr c n, Int.add_mul]
theorem sumTo_zero : ∀ n : Nat, sumTo n (fun _ => 0) = 0
  | 0 => rfl
  | n + 1 => by
    unfold sumTo
    rw [sumTo_zero n]
    rfl
theorem sumTo_zero' {f : Nat → Int} {n : Nat} (h : ∀ k, k < n → f k = 0) : sumTo n f = 0 := by rw [sumTo_congr h, sumTo_zero]
theorem sumTo_le {f g : Nat → Int} : ∀ {n : Nat}, (∀ k, k < n → f k ≤ g k) → sumTo n f ≤ sumTo n g
  | 0, _ => Int.le_refl _
  | n + 1, h => by
    unfold sumTo
    have h1 := sumTo_le (f := f) (g := g) (n := n) fun k hk => h k (by omega)
    have h2 := h n (by omega)
    omega
theorem sumTo_nonneg {f : Nat → Int} {n : Nat} (h : ∀ k, k < n → 0 ≤ f k) : 0 ≤ sumTo n f := by
  have := sumTo_le (f := fun _ => 0) (g := f) (n := n) h
  rwa [sumTo_zero] at this
/-- one place alone differs -/
theorem sumTo_upd {f g : Nat → Int} {j : Nat} : ∀ {n : Nat}, j < n → (∀ k, k < n → k ≠ j → f k = g k) → sumTo n f = sumTo n g + (f j - g j)
  | 0, h, _ => by omega
  | n + 1, h, e => by
    unfold sumTo
    by_cases c : j = n
    · subst c
      rw [sumTo_congr fun k hk => e k (by omega) (by omega)]
      omega
    · rw [sumTo_upd (by omega) fun k hk hn => e k (by omega) hn, e n (by omega) (by omega)]
      omega
theorem sumTo_one {f : Nat → Int} {j n : Nat} (h : j < n) (e : ∀ k, k < n → k ≠ j → f k = 0) : sumTo n f = f j := by
  rw [sumTo_upd (g := fun _ => 0) h e, sumTo_zero]
  omega
theorem sumTo_swap {f : Nat → Nat → Int} (m : Nat) : ∀ n : Nat, sumTo n (fun i => sumTo m fun j => f i j) = sumTo m fun j => sumTo n fun i => f i j
  | 0 => by
    rw [show (fun j => sumTo 0 fun i => f i j) = fun _ => 0 from rfl, sumTo_zero]
    rfl
  | n + 1 => by
    show sumTo n (fun i => sumTo m fun j => f i j) + sumTo m (fun j => f n j) = _
    rw [sumTo_swap m n, ← sumTo_add]
    rfl
theorem sumTo_split {f : Nat → Int} (m : Nat) : ∀ n : Nat, sumTo (m + n) f = sumTo m f + sumTo n fun k => f (m + k)
  | 0 => by simp [sumTo]
  | n + 1 => by
    show sumTo (m + n) f + f (m + n) = _
    rw [sumTo_split m n]
    show _ = sumTo m f + (sumTo n (fun k => f (m + k)) + f (m + n))
    omega
theorem sum_app (xs ys : List Int) : (xs ++ ys).sum = xs.sum + ys.sum := by
  induction xs with
  | nil => simp
  | cons x xs ih => rw [List.cons_append, List.sum_cons, ih, List.sum_cons]; omega
theorem sum_gA (xs : List Int) : xs.sum = sumTo xs.length (gA xs) := by
  induction xs with
  | nil => rfl
  | cons x xs ih =>
    have e : sumTo (1 + xs.length) (gA (x :: xs)) = sumTo 1 (gA (x :: xs)) + sumTo xs.length fun k => gA (x :: xs) (1 + k) := sumTo_split 1 xs.length
    rw [List.length_cons, List.sum_cons, show xs.length + 1 = 1 + xs.length by omega, e, ih]
    have e1 : sumTo 1 (gA (x :: xs)) = x := by
      show 0 + gA (x :: xs) 0 = x
      rw [gA_of (xs := x :: xs) (k := 0) (a := x) rfl]
      omega
    rw [e1]
    congr 1
    refine sumTo_congr fun k hk => ?_
    refine (gA_of ?_).symm
    rw [show 1 + k = k + 1 by omega, List.getElem?_cons_succ]
    exact gA_some hk
theorem sum_map_range (f : Nat → Int) (n : Nat) : ((List.range n).map f).sum = sumTo n f := by
  induction n with
  | zero => rfl
  | succ n ih =>
    rw [List.range_succ, List.map_append, sum_app, ih]
    simp [sumTo]
end SM

set_option Elab.async false
set_option linter.all false
set_option maxRecDepth 100000
set_option maxHeartbeats 2000000
/-! TMb: plain lists. -/
namespace SM
open PySem PySem.Spec PyProof.Rows L2 SL
theorem nodup_le {α : Type} [DecidableEq α] : ∀ (l m : List α), l.Nodup → (∀ x ∈ l, x ∈ m) → l.length ≤ m.length
  | [], _, _, _ => Nat.zero_le _
  | x :: l, m, nd, h => by
    have hx : x ∈ m := h x (by simp)
    have h2 : ∀ y ∈ l, y ∈ m.erase x := fun y hy => by
      have ne : y ≠ x := fun z => (List.nodup_cons.mp nd).1 (z ▸ hy)
      exact (List.mem_erase_of_ne ne).mpr (h y (by simp [hy]))
    have := nodup_le l (m.erase x) (List.nodup_cons.mp nd).2 h2
    rw [List.length_erase_of_mem hx] at this
    have : 0 < m.length := List.length_pos_of_mem hx
    rw [List.length_cons]
    omega
theorem cut_drop {α : Type} (xs : List α) (n : Nat) : cut xs (some (n : Int)) none = xs.drop n := by
  unfold cut
  rw [HT.sIx_nat]
  show (xs.drop (min n xs.length)).take (HT.sIx xs.length xs.length none - min n xs.length) = _
  show (xs.drop (min n xs.length)).take (xs.length - min n xs.length) = _
  by_cases h : n ≤ xs.length
  · rw [Nat.min_eq_left h, List.take_of_length_le (by rw [List.length_drop]; omega)]
  · rw [Nat.min_eq_right (by omega), List.drop_length, List.drop_of_length_le (by omega)]
    simp
theorem nodup_gA {α : Type} [Inhabited α] {xs : List α} (nd : xs.Nodup) {i j : Nat} (hi : i < xs.length) (hj : j < xs.length) (e : gA xs i = gA xs j) : i = j := by
  have h := List.pairwise_iff_getElem.mp nd
  have ei : gA xs i = xs[i] := gA_of (List.getElem?_eq_getElem hi)
  have ej : gA xs j = xs[j] := gA_of (List.getElem?_eq_getElem hj)
  rw [ei, ej] at e
  rcases Nat.lt_trichotomy i j with c | c | c
  · exact absurd e (h i j hi hj c)
  · exact c
  · exact absurd e.symm (h j i hj hi c)
theorem mem_gA {α : Type} [Inhabited α] {xs : List α} {x : α} (h : x ∈ xs) : ∃ k, k < xs.length ∧ gA xs k = x := by
  obtain ⟨k, hk⟩ := List.mem_iff_getElem?.mp h
  exact ⟨k, (List.getElem?_eq_some_iff.mp hk).1, gA_of hk⟩
theorem gA_drop {α : Type} [Inhabited α] {xs : List α} {n k : Nat} : gA (xs.drop n) k = gA xs (n + k) := by
  unfold gA
  rw [List.getD_eq_getElem?_getD, List.getD_eq_getElem?_getD, List.getElem?_drop]
theorem gA_take {α : Type} [Inhabited α] {xs : List α} {n k : Nat} (h : k < n) : gA (xs.take n) k = gA xs k := by
  unfold gA
  rw [List.getD_eq_getElem?_getD, List.getD_eq_getElem?_getD, List.getElem?_take_of_lt h]
theorem maxL_is {xs : List Int} (h : xs ≠ []) : Ok (maxL xs) fun m => m ∈ xs ∧ ∀ y ∈ xs, y ≤ m := by
  cases xs with
  | nil => exact absurd rfl h
  | cons x r => exact ⟨_, rfl, foldl_max r x⟩
theorem minL_is {xs : List Int} (h : xs ≠ []) : Ok (minL xs) fun m => m ∈ xs ∧ ∀ y ∈ xs, m ≤ y := by
  cases xs with
  | nil => exact absurd rfl h
  | cons x r => exact ⟨_, rfl, foldl_min r x⟩
theorem sumTo_lt {f g : Nat → Int} {n j : Nat} (hj : j < n) (h : ∀ k, k < n → f k ≤ g k) (h1 : f j + 1 ≤ g j) : sumTo n f + 1 ≤ sumTo n g := by
  have e := sumTo_upd (f := f) (g := fun k => if k = j then g j else f k) hj (fun k _ hk => by simp [hk])
  have l := sumTo_le (f := fun k => if k = j then g j else f k) (g := g) (n := n) (fun k hk => by
    by_cases c : k = j
    · subst c; simp
    · simp only [if_neg c]; exact h k hk)
  simp only [if_true] at e
  omega
end SM

set_option Elab.async false
set_option linter.all false
set_option maxRecDepth 100000
set_option maxHeartbeats 2000000
/-! TMc: data that can be shown. -/
namespace SM
open PySem PySem.Spec PyProof.Rows L2 SL
structure Rp (d : PyData) (n : Nat) : Prop where
  sh : d.showable = true
  nd : d.hasDict = false
  lv : d.leavesShort 13 = true
  bk : d.bulk ≤ n
structure RpAll (ds : List PyData) (n : Nat) : Prop where
  sh : PyData.showableAll ds = true
  nd : PyData.hasDictAll ds = false
  lv : PyData.leavesShortAll 13 ds = true
  bk : PyData.bulkAll ds ≤ n
theorem rp_int {i : Int} (h : i.natAbs < 1000000000000) : Rp (.int i) 0 where
  sh := by
    simp only [PyData.showable, decide_eq_true_eq]
    by_cases c : i.natAbs = 0
    · rw [c]
      decide
    · rw [Nat.log2_lt c]
      exact Nat.lt_of_lt_of_le h (Nat.le_trans (by decide : 1000000000000 ≤ 2 ^ 40) (Nat.pow_le_pow_right (by decide) (by decide)))
  nd := by simp only [PyData.hasDict]
  lv := by
    simp only [PyData.leavesShort, decide_eq_true_eq]
    exact PyData.shown_int_le (by simpa using h)
  bk := by simp only [PyData.bulk]; omega
theorem rp_nil : RpAll [] 0 := ⟨by simp only [PyData.showableAll], by simp only [PyData.hasDictAll], by simp only [PyData.leavesShortAll], by simp only [PyData.bulkAll]; omega⟩
theorem rp_cons {d : PyData} {ds : List PyData} {m n k : Nat} (h1 : Rp d m) (h2 : RpAll ds n) (h : m + 1 + n ≤ k) : RpAll (d :: ds) k where
  sh := by simp only [PyData.showableAll, h1.sh, h2.sh, Bool.and_self]
  nd := by simp only [PyData.hasDictAll, h1.nd, h2.nd, Bool.or_self]
  lv := by simp only [PyData.leavesShortAll, h1.lv, h2.lv, Bool.and_self]
  bk := by
    have := h1.bk
    have := h2.bk
    simp only [PyData.bulkAll]
    omega
theorem rp_map {α : Type} {f : α → PyData} {n : Nat} : ∀ {xs : List α}, (∀ x ∈ xs, Rp (f x) n) → RpAll (xs.map f) (xs.length * (n + 1))
  | [], _ => ⟨rp_nil.sh, rp_nil.nd, rp_nil.lv, Nat.le_trans rp_nil.bk (Nat.zero_le _)⟩
  | x :: xs, h => rp_cons (h x (by simp)) (rp_map fun y hy => h y (by simp [hy])) (by rw [List.length_cons, Nat.add_mul, Nat.one_mul]; omega)
theorem rp_list {ds : List PyData} {n : Nat} (h : RpAll ds n) : Rp (.list ds) n where
  sh := by simpa only [PyData.showable] using h.sh
  nd := by simpa only [PyData.hasDict] using h.nd
  lv := by simpa only [PyData.leavesShort] using h.lv
  bk := by simpa only [PyData.bulk] using h.bk
theorem rp_tup {ds : List PyData} {n : Nat} (h : RpAll ds n) : Rp (.tuple ds) n where
  sh := by simpa only [PyData.showable] using h.sh
  nd := by simpa only [PyData.hasDict] using h.nd
  lv := by simpa only [PyData.leavesShort] using h.lv
  bk := by simpa only [PyData.bulk] using h.bk
theorem Rp.mono {d : PyData} {m n : Nat} (h : Rp d m) (l : m ≤ n) : Rp d n := ⟨h.sh, h.nd, h.lv, Nat.le_trans h.bk l⟩
theorem Rp.can {d : PyData} {n : Nat} (h : Rp d n) (c : isL d = true ∨ isT d = true) (hd : d.depth ≤ 60) (hn : n ≤ 1000000) : CanRepr d := by
  refine ⟨c, h.sh, h.nd, hd, ?_⟩
  have h1 := PyData.shown_le_bulk 13 (by decide) d h.lv
  have h2 := h.bk
  omega
theorem Rp.repr {d : PyData} {n : Nat} (h : Rp d n) (c : isL d = true ∨ isT d = true) (hd : d.depth ≤ 60) (hn : n ≤ 1000000) : reprO d = pure d.shown := if_pos (h.can c hd hn)
end SM

set_option Elab.async false
set_option linter.all false
set_option maxRecDepth 100000
set_option maxHeartbeats 4000000
namespace My
open PySem PySem.Spec PyProof.Rows L2 SL
def top (i : Nat) : Stmt := PySem.Challenge.pw_sloweralone_k13_rings_out.main.body.getD i (.Pass ⟨0, 0, 0, 0⟩)
abbrev s_live_arcs : Stmt := top 1
abbrev s_next_arc : Stmt := top 2
abbrev s_found_ring : Stmt := top 3
abbrev s_without_rings : Stmt := top 4
abbrev s_frozen : Stmt := top 9
abbrev s_is_arc : Stmt := top 13
abbrev s_Web___init__ : Stmt := clsAt (top 14) 0
abbrev s_Web_node_count : Stmt := clsAt (top 14) 1
abbrev s_node_sums : Stmt := top 15
abbrev s_flow_total : Stmt := top 16
abbrev s_flow_fault : Stmt := top 17
abbrev s_law_whole : Stmt := top 19
abbrev s_law_cell : Stmt := top 20
abbrev s_law_digits : Stmt := top 21
abbrev s_law_walks : Stmt := top 22
abbrev s_law_arc_at : Stmt := top 23
abbrev s_law_lay : Stmt := top 24
abbrev s_law_sums : Stmt := top 25
abbrev s_law_has_ring : Stmt := top 26
abbrev s_law_numbers : Stmt := top 27
abbrev s_law_right : Stmt := top 28
abbrev s_law_web_stays : Stmt := top 29
abbrev s_law_asked : Stmt := top 30
abbrev s_law_long_right : Stmt := top 31
abbrev s_law_large_right : Stmt := top 32
abbrev s_law : Stmt := top 33
abbrev R_Web : Fls ((List Int) × (List Int) × (List (Int × Int × Int))) := ⟨["rooms", "gains", "arcs"], fun o => [.mk "rooms" (List Int) (tTup tInt) o.1, .mk "gains" (List Int) (tTup tInt) o.2.1, .mk "arcs" (List (Int × Int × Int)) (tTup (tT3 tInt tInt tInt)) o.2.2], fun _ => rfl, by decide⟩
abbrev FUEL : Nat := 1000000000
noncomputable section
variable {Pr : Program} {w : World} {K : PySem.W.Frag} {mg : Str → Option Value} {base : Heap}
def b_law_whole (value : Int) : Out Bool :=
if true = true then pure (!false) else pure false
theorem x_law_whole : ∃ g : Int → Out Bool, g = b_law_whole := ⟨_, rfl⟩
def m_law_whole : Int → Out Bool := Classical.choose x_law_whole
theorem m_law_whole_eq : m_law_whole = b_law_whole := Classical.choose_spec x_law_whole
abbrev P_law_whole : Par (Int × Unit) := (pC tInt pN)
abbrev u_law_whole (i : Int × Unit) : Out Bool := m_law_whole i.1
theorem sc_law_whole : FnScope ["value"] ["value"] (defScope s_law_whole) := ⟨rfl, rfl, rfl, by decide +kernel, rfl, by decide +kernel, by decide +kernel⟩
abbrev sp_law_whole (K : PySem.W.Frag) : Sp := Sps P_law_whole u_law_whole tBool K
theorem ok_law_whole {fd : FuncData} (Z : Fre mg) (F : FunD K "_law_whole" "_law_whole" (defArgs s_law_whole) (defBody s_law_whole) (defScope s_law_whole) [] [] (He.fAd K ("_law_whole", none)) fd) (g : mg "_law_whole" = some (.ref (He.fAd K ("_law_whole", none))))    : Def Pr w K mg base 1 "_law_whole" ["value"] [] (sp_law_whole K) := by
  refine ⟨_, fd, [], fn_body F sc_law_whole rfl (by decide) (fun X E B i e1 e2 e3 e4 e5 hW C => ?_), g, F.kp, F.bindsN (fun _ _ _ _ _ _ us hl => match us, hl with | [_], _ => rfl), .nil⟩
  subst e1 e2 e3 e4 e5
  obtain ⟨value, _⟩ := i
  show WS X E B [iS tInt value] [_] (m_law_whole value) _
  rw [m_law_whole_eq]
  unfold b_law_whole
  exact ws_ret0 (WE.cast (m' := if true = true then pure (!false) else pure false) (we_and (we_isi C Z (cn := "int") (fun _ => true) ty_int (fun _ => by decide +kernel) (we_var C 0) Z.int (by decide +kernel)) (we_bo1 (we_not (we_isi C Z (cn := "bool") (fun _ => false) ty_int (fun _ => by decide +kernel) (we_var C 0) Z.bool (by decide +kernel))))) (by first | rfl | simp only [bind_as, pure_b])) (fun _ => rfl)
def b_law_cell (script : List Int) (k : Int) : Out Int :=
(pure (decide (k < (script.length : Int)))) >>= fun c1 => if c1 = true then (
idx script k)
else (
(pure 17) >>= fun seed =>
((pure script) >>= fun xs4 => forO (fun (s2 : Int) (x3 : Int) =>
(pure (((s2 * 31) + (x3 % 1000003)) % 1000003)) >>= fun seed =>
pure seed) xs4 seed) >>= fun s5 =>
(((mulO (s5 + 7) (k + 3)) >>= fun t6 => pure (t6 * 69621)) >>= fun t7 => pure t7) >>= fun t8 => pure (t8 % 2147483647))
theorem x_law_cell : ∃ g : (List Int) → Int → Out Int, g = b_law_cell := ⟨_, rfl⟩
def m_law_cell : (List Int) → Int → Out Int := Classical.choose x_law_cell
theorem m_law_cell_eq : m_law_cell = b_law_cell := Classical.choose_spec x_law_cell
abbrev P_law_cell : Par ((List Int) × Int × Unit) := (pC (tLstQ tInt) (pC tInt pN))
abbrev u_law_cell (i : (List Int) × Int × Unit) : Out Int := m_law_cell i.1 i.2.1
theorem sc_law_cell : FnScope ["script", "k", "seed", "cell"] ["script", "k"] (defScope s_law_cell) := ⟨rfl, rfl, rfl, by decide +kernel, rfl, by decide +kernel, by decide +kernel⟩
abbrev sp_law_cell (K : PySem.W.Frag) : Sp := Sps P_law_cell u_law_cell tInt K
theorem ok_law_cell {fd : FuncData} (Z : Fre mg) (F : FunD K "_law_cell" "_law_cell" (defArgs s_law_cell) (defBody s_law_cell) (defScope s_law_cell) [] [] (He.fAd K ("_law_cell", none)) fd) (g : mg "_law_cell" = some (.ref (He.fAd K ("_law_cell", none))))    : Def Pr w K mg base 1 "_law_cell" ["script", "k"] [] (sp_law_cell K) := by
  refine ⟨_, fd, [], fn_body F sc_law_cell rfl (by decide) (fun X E B i e1 e2 e3 e4 e5 hW C => ?_), g, F.kp, F.bindsN (fun _ _ _ _ _ _ us hl => match us, hl with | [_, _], _ => rfl), .nil⟩
  subst e1 e2 e3 e4 e5
  obtain ⟨script, k, _⟩ := i
  show WS X E B [iS (tLstQ tInt) script, iS tInt k, .any, .any] [_] (m_law_cell script k) _
  rw [m_law_cell_eq]
  unfold b_law_cell
  exact ws_if (WT.cast (m' := pure (decide (k < (script.length : Int)))) (wt_lt (we_var C 1) (we_lenL C Z (WE.rq (we_var C 0)))) (by first | rfl | simp only [bind_as, pure_b])) (
ws_ret0 (WE.cast (m' := idx script k) (we_ixL (WE.rq (we_var C 0)) (we_var C 1)) (by first | rfl | simp only [bind_as, pure_b])) (fun _ => rfl)) (
ws_pop (ws_set C 2 (WE.cast (m' := pure 17) we_int (by first | rfl | simp only [bind_as, pure_b])) (fun seed =>
ws_seq (Δ := (fun (s2 : Int) => [iS (tLstQ tInt) script, iS tInt k, iS tInt s2, .any])) (w1_for C (WI.cast (m' := pure script) (wi_lstQ (we_var C 0)) (by first | rfl | simp only [bind_as, pure_b])) (wg_name C 3) (Δ := (fun (s2 : Int) => [iS (tLstQ tInt) script, iS tInt k, iS tInt s2, .any])) (s0 := seed) (Weak.same (Weak.same (Weak.same (Weak.same Weak.nil)))) (by exact (fun s2 x3 =>
ws_set C 2 (WE.cast (m' := pure (((s2 * 31) + (x3 % 1000003)) % 1000003)) (we_modR (we_intI C Z (we_add (we_mulR (we_var C 2) we_int) (we_modR (we_intI C Z (we_var C 3)) we_int))) we_int) (by first | rfl | simp only [bind_as, pure_b])) (fun seed =>
ws_fin rfl (Weak.same (Weak.same (Weak.same (Weak.any Weak.nil)))))))) (fun s5 =>
ws_ret0 (WE.cast (m' := (((mulO (s5 + 7) (k + 3)) >>= fun t6 => pure (t6 * 69621)) >>= fun t7 => pure t7) >>= fun t8 => pure (t8 % 2147483647)) (we_modR (we_intI C Z (we_mulR (we_mul (we_add (we_var C 2) we_int) (we_add (we_var C 1) we_int)) we_int)) we_int) (by first | rfl | simp only [bind_as, pure_b])) (fun _ => rfl)))))
def b_law_digits (cell : Int) (sizes : List Int) : Out (List Int) :=
(pure ([] : List Int)) >>= fun row =>
(pure 0) >>= fun rest =>
((pure (decide (1000000000000000000 ≤ cell))) >>= fun c1 => if c1 = true then (
(pure ((cell - 1000000000000000000) % 10000000000000000000000000000000000000000000000000000000000000000000000000000000000000000000000000000000000000000000000000000000000000000000000000000000000000000000000000000000000000000000000000000000000000000000000000000000000000000000000000000000000000000)) >>= fun rest =>
pure rest)
else (
pure rest)) >>= fun s2 =>
(pure (cell % 2147483629)) >>= fun seed =>
((pure (upto sizes.length)) >>= fun xs13 => forO (fun (s3 : Int × Int × (List Int)) (x4 : Int) =>
(pure ((((s3.1 * 48271) + (974711 * x4)) + 12345) % 2147483647)) >>= fun seed =>
(((mulO seed ((seed / 65537) + 3)) >>= fun t5 => pure t5) >>= fun t6 => pure (t6 % 2147483629)) >>= fun twice =>
(pure (decide (0 < s3.2.1))) >>= fun c7 => if c7 = true then (
((idx sizes x4) >>= fun t8 => modO s3.2.1 t8) >>= fun a9 => appO s3.2.2 a9 >>= fun row =>
((idx sizes x4) >>= fun t10 => divO s3.2.1 t10) >>= fun rest =>
pure (seed, rest, row))
else (
((idx sizes x4) >>= fun t11 => modO (twice / 19) t11) >>= fun a12 => appO s3.2.2 a12 >>= fun row =>
pure (seed, s3.2.1, row))) xs13 (seed, s2, row)) >>= fun s14 =>
pure s14.2.2
theorem x_law_digits : ∃ g : Int → (List Int) → Out (List Int), g = b_law_digits := ⟨_, rfl⟩
def m_law_digits : Int → (List Int) → Out (List Int) := Classical.choose x_law_digits
theorem m_law_digits_eq : m_law_digits = b_law_digits := Classical.choose_spec x_law_digits
abbrev P_law_digits : Par (Int × (List Int) × Unit) := (pC tInt (pC (tLst tInt) pN))
abbrev u_law_digits (i : Int × (List Int) × Unit) : Out (List Int) := m_law_digits i.1 i.2.1
theorem sc_law_digits : FnScope ["cell", "sizes", "row", "rest", "seed", "k", "twice"] ["cell", "sizes"] (defScope s_law_digits) := ⟨rfl, rfl, rfl, by decide +kernel, rfl, by decide +kernel, by decide +kernel⟩
abbrev sp_law_digits (K : PySem.W.Frag) : Sp := SpsO P_law_digits u_law_digits (oLst tInt) K
theorem ok_law_digits {fd : FuncData} (Z : Fre mg) (F : FunD K "_law_digits" "_law_digits" (defArgs s_law_digits) (defBody s_law_digits) (defScope s_law_digits) [] [] (He.fAd K ("_law_digits", none)) fd) (g : mg "_law_digits" = some (.ref (He.fAd K ("_law_digits", none))))    : Def Pr w K mg base 1 "_law_digits" ["cell", "sizes"] [] (sp_law_digits K) := by
  refine ⟨_, fd, [], fn_bodyO F sc_law_digits rfl (by decide) (fun X E B i e1 e2 e3 e4 e5 hW C => ?_), g, F.kp, F.bindsN (fun _ _ _ _ _ _ us hl => match us, hl with | [_, _], _ => rfl), .nil⟩
  subst e1 e2 e3 e4 e5
  obtain ⟨cell, sizes, _⟩ := i
  show WS X E B [iS tInt cell, iS (tLst tInt) sizes, .any, .any, .any, .any, .any] [_] (m_law_digits cell sizes) _
  rw [m_law_digits_eq]
  unfold b_law_digits
  exact ws_setO C 2 (WO.cast (m' := pure ([] : List Int)) (wo_lst (wal_nil (T := tInt))) (by first | rfl | simp only [bind_as, pure_b])) (fun row =>
ws_set C 3 (WE.cast (m' := pure 0) we_int (by first | rfl | simp only [bind_as, pure_b])) (fun rest =>
ws_seq (Δ := (fun (s2 : Int) => [iS tInt cell, iS (tLst tInt) sizes, .on _ (oLst tInt) row, iS tInt s2, .any, .any, .any])) (w1_if (WT.cast (m' := pure (decide (1000000000000000000 ≤ cell))) (wt_ge (we_var C 0) (we_powL 1000000000000000000 we_int we_int)) (by first | rfl | simp only [bind_as, pure_b])) (
ws_set C 3 (WE.cast (m' := pure ((cell - 1000000000000000000) % 10000000000000000000000000000000000000000000000000000000000000000000000000000000000000000000000000000000000000000000000000000000000000000000000000000000000000000000000000000000000000000000000000000000000000000000000000000000000000000000000000000000000000000)) (we_modR (we_intI C Z (we_sub (we_var C 0) (we_powL 1000000000000000000 we_int we_int))) (we_mulW 10000000000000000000000000000000000000000000000000000000000000000000000000000000000000000000000000000000000000000000000000000000000000000000000000000000000000000000000000000000000000000000000000000000000000000000000000000000000000000000000000000000000000000 (we_mulW 1000000000000000000000000000000000000000000000000000000000000000000000000000000000000000000000000000000000000000000000000000000000000000000000000000000000000000000000000000000000000000000000000 (we_mulW 100000000000000000000000000000000000000000000000000000000000000000000000000000000000000000000000000000000000000000000000000000000 (we_powL 10000000000000000000000000000000000000000000000000000000000000000 we_int we_int) (we_powL 10000000000000000000000000000000000000000000000000000000000000000 we_int we_int)) (we_powL 10000000000000000000000000000000000000000000000000000000000000000 we_int we_int)) (we_powL 10000000000000000000000000000000000000000000000000000000000000000 we_int we_int)) (by decide +kernel)) (by first | rfl | simp only [bind_as, pure_b])) (fun rest =>
ws_fin rfl (Weak.same (Weak.same (Weak.same (Weak.same (Weak.same (Weak.same (Weak.same Weak.nil))))))))) (
ws_fin rfl (Weak.same (Weak.same (Weak.same (Weak.same (Weak.same (Weak.same (Weak.same Weak.nil))))))))) (fun s2 =>
ws_set C 4 (WE.cast (m' := pure (cell % 2147483629)) (we_modR (we_intI C Z (we_var C 0)) we_int) (by first | rfl | simp only [bind_as, pure_b])) (fun seed =>
ws_seq (Δ := (fun (s3 : Int × Int × (List Int)) => [iS tInt cell, iS (tLst tInt) sizes, .on _ (oLst tInt) s3.2.2, iS tInt s3.2.1, iS tInt s3.1, .any, .any])) (w1_for C (WI.cast (m' := pure (upto sizes.length)) (wi_rlen C Z rl_len (WE.rd (we_var C 1))) (by first | rfl | simp only [bind_as, pure_b])) (wg_name C 5) (Δ := (fun (s3 : Int × Int × (List Int)) => [iS tInt cell, iS (tLst tInt) sizes, .on _ (oLst tInt) s3.2.2, iS tInt s3.2.1, iS tInt s3.1, .any, .any])) (s0 := (seed, s2, row)) (Weak.same (Weak.same (Weak.same (Weak.same (Weak.same (Weak.same (Weak.same Weak.nil))))))) (by exact (fun s3 x4 =>
ws_set C 4 (WE.cast (m' := pure ((((s3.1 * 48271) + (974711 * x4)) + 12345) % 2147483647)) (we_modR (we_intI C Z (we_add (we_add (we_mulR (we_var C 4) we_int) (we_mulL we_int (we_var C 5))) we_int)) we_int) (by first | rfl | simp only [bind_as, pure_b])) (fun seed =>
ws_set C 6 (WE.cast (m' := ((mulO seed ((seed / 65537) + 3)) >>= fun t5 => pure t5) >>= fun t6 => pure (t6 % 2147483629)) (we_modR (we_intI C Z (we_mul (we_var C 4) (we_add (we_divR (we_var C 4) we_int) we_int))) we_int) (by first | rfl | simp only [bind_as, pure_b])) (fun twice =>
ws_if (WT.cast (m' := pure (decide (0 < s3.2.1))) (wt_gt (we_var C 3) we_int) (by first | rfl | simp only [bind_as, pure_b])) (
ws_app C 2 (WE.cast (m' := (idx sizes x4) >>= fun t8 => modO s3.2.1 t8) (we_mod (we_intI C Z (we_var C 3)) (we_ixL (WE.rd (we_var C 1)) (we_var C 5))) (by first | rfl | simp only [bind_as, pure_b])) (fun row =>
ws_set C 3 (WE.cast (m' := (idx sizes x4) >>= fun t10 => divO s3.2.1 t10) (we_div (we_var C 3) (we_ixL (WE.rd (we_var C 1)) (we_var C 5))) (by first | rfl | simp only [bind_as, pure_b])) (fun rest =>
ws_pop (ws_fin rfl (Weak.same (Weak.same (Weak.same (Weak.same (Weak.same (Weak.any (Weak.any Weak.nil))))))))))) (
ws_app C 2 (WE.cast (m' := (idx sizes x4) >>= fun t11 => modO (twice / 19) t11) (we_mod (we_intI C Z (we_divR (we_var C 6) we_int)) (we_ixL (WE.rd (we_var C 1)) (we_var C 5))) (by first | rfl | simp only [bind_as, pure_b])) (fun row =>
ws_pop (ws_fin rfl (Weak.same (Weak.same (Weak.same (Weak.same (Weak.same (Weak.any (Weak.any Weak.nil))))))))))))))) (fun s14 =>
ws_retV C 2 hW rfl)))))
theorem x_frozen : ∃ g : PyData → Out PyData, g = fun value => pure (frzD value) := ⟨_, rfl⟩
def m_frozen : PyData → Out PyData := Classical.choose x_frozen
theorem m_frozen_eq : m_frozen = fun value => pure (frzD value) := Classical.choose_spec x_frozen
theorem sc_frozen : FnScope ["value", "item"] ["value"] (defScope s_frozen) := ⟨rfl, rfl, rfl, by decide +kernel, rfl, by decide +kernel, by decide +kernel⟩
abbrev sp_frozenN (n : Nat) (K : PySem.W.Frag) : Sp := Sps (pC (tDn n) pN) (fun i => m_frozen i.1) tD K
abbrev sp_frozen (K : PySem.W.Frag) : Sp := sp_frozenN 8 K
theorem frozen_step {n : Nat} {fd : FuncData} (Z : Fre mg) (F : FunD K "frozen" "frozen" (defArgs s_frozen) (defBody s_frozen) (defScope s_frozen) [] [] (He.fAd K ("frozen", none)) fd) (g : mg "frozen" = some (.ref (He.fAd K ("frozen", none))))
    (G : ∀ m, n = m + 1 → Def Pr w K mg base n "frozen" ["value"] [] (sp_frozenN m K)) : Def Pr w K mg base (n + 1) "frozen" ["value"] [] (sp_frozenN n K) := by
  refine ⟨_, fd, [], fn_body F sc_frozen rfl (Nat.le_of_ble_eq_true rfl) (fun X E B i e1 e2 e3 e4 e5 hW C => ?_), g, F.kp, F.bindsN (fun _ _ _ _ _ _ us hl => match us, hl with | [_], _ => rfl), .nil⟩
  subst e1 e2 e3 e4 e5
  obtain ⟨value, _⟩ := i
  show WS X E B [iS (tDn n) value, .any] [_] (m_frozen value) _
  rw [m_frozen_eq]
  have leaf : isL value = false → isT value = false → WS X E B [iS (tDn n) value, .any] [defBody s_frozen] (pure (frzD value)) (fun b => .rt PyData tD b) := fun h1 h2 => by
    have e : frzD value = value := by cases value <;> first | rfl | (simp [isL, isT] at h1 h2)
    rw [e]
    refine WS.cast (ws_if (m1 := Out.stuck) (WT.cast (m' := pure false) (wt_val (we_isi2 C Z (cn := "list") (dn := "tuple") isL isT ty_dn kit_L kit_T (we_var C 0) Z.list (by decide +kernel) Z.tuple (by decide +kernel))) (by show (pure (isL value || isT value) : Out Bool) = _; rw [h1, h2]; rfl)) ws_stuck (ws_pop (ws_ret0 (WE.dn (we_var C 0)) fun _ => rfl))) rfl
  cases value with
  | list xs =>
    refine ws_have 0 (T := tDn n) (a := .list xs) (fun K F v h => depth_list h.2) rfl fun ⟨m, hm⟩ => ?_
    subst hm
    refine ws_conv 0 (U := tLstQ (tDn m)) (b := xs) (fun K F v h => by obtain ⟨m', e, r⟩ := dn_list h; cases e; exact r) rfl ?_
    refine WS.cast (ws_if (m2 := Out.stuck) (WT.cast (m' := pure true) (wt_val (we_isi2 C Z (cn := "list") (dn := "tuple") (fun _ => true) (fun _ => false) ty_lstq (fun _ => by decide +kernel) (fun _ => by decide +kernel) (we_var C 0) Z.list (by decide +kernel) Z.tuple (by decide +kernel))) rfl) (ws_ret0 (WE.map (S := tD.rl) (we_tuple C Z (WO.rd (wo_lc C (ix := [1]) [("item", 1)] (by decide +kernel) (WIg.s (WI.cast (m' := pure xs) (wi_lstQ (we_var C 0)) rfl)) (by decide) (fun s_ H_ Cc_ cl_ fp_ C => wg_name C 1) (fun s_ H_ Cc_ cl_ fp_ x C => WE.cast (m' := m_frozen x) (we_call C (G m rfl) (Nat.le_refl _) (wa_cons (R := (tDn m).rl) (we_var C 1) fun a0 => wa_nil fun K F H s v0 r0 => ⟨(a0, ()), rfl, v0, _, rfl, r0, rfl⟩)) rfl)))) PyData.tuple (fun K F H v a _ h => tupD h)) fun _ => rfl) ws_stuck) ?_
    show ((mapO m_frozen xs >>= fun a => pure a) >>= fun a => pure (PyData.tuple a)) = pure (frzD (.list xs))
    rw [m_frozen_eq, mapO_pure]
    show (pure (PyData.tuple (xs.map frzD)) : Out PyData) = _
    rw [← frzDs_map, frzD]
  | tuple xs =>
    refine ws_have 0 (T := tDn n) (a := .tuple xs) (fun K F v h => depth_tuple h.2) rfl fun ⟨m, hm⟩ => ?_
    subst hm
    refine ws_conv 0 (U := tTup (tDn m)) (b := xs) (fun K F v h => by obtain ⟨m', e, r⟩ := dn_tuple h; cases e; exact r) rfl ?_
    refine WS.cast (ws_if (m2 := Out.stuck) (WT.cast (m' := pure true) (wt_val (we_isi2 C Z (cn := "list") (dn := "tuple") (fun _ => false) (fun _ => true) ty_tup (fun _ => by decide +kernel) (fun _ => by decide +kernel) (we_var C 0) Z.list (by decide +kernel) Z.tuple (by decide +kernel))) rfl) (ws_ret0 (WE.map (S := tD.rl) (we_tuple C Z (WO.rd (wo_lc C (ix := [1]) [("item", 1)] (by decide +kernel) (WIg.s (WI.cast (m' := pure xs) (wi_tup (we_var C 0)) rfl)) (by decide) (fun s_ H_ Cc_ cl_ fp_ C => wg_name C 1) (fun s_ H_ Cc_ cl_ fp_ x C => WE.cast (m' := m_frozen x) (we_call C (G m rfl) (Nat.le_refl _) (wa_cons (R := (tDn m).rl) (we_var C 1) fun a0 => wa_nil fun K F H s v0 r0 => ⟨(a0, ()), rfl, v0, _, rfl, r0, rfl⟩)) rfl)))) PyData.tuple (fun K F H v a _ h => tupD h)) fun _ => rfl) ws_stuck) ?_
    show ((mapO m_frozen xs >>= fun a => pure a) >>= fun a => pure (PyData.tuple a)) = pure (frzD (.tuple xs))
    rw [m_frozen_eq, mapO_pure]
    show (pure (PyData.tuple (xs.map frzD)) : Out PyData) = _
    rw [← frzDs_map, frzD]
  | none => exact leaf rfl rfl
  | bool _ => exact leaf rfl rfl
  | int _ => exact leaf rfl rfl
  | str _ => exact leaf rfl rfl
  | dict _ => exact leaf rfl rfl
theorem ok_frozenN {fd : FuncData} (Z : Fre mg) (F : FunD K "frozen" "frozen" (defArgs s_frozen) (defBody s_frozen) (defScope s_frozen) [] [] (He.fAd K ("frozen", none)) fd) (g : mg "frozen" = some (.ref (He.fAd K ("frozen", none)))) : ∀ n, Def Pr w K mg base (n + 1) "frozen" ["value"] [] (sp_frozenN n K)
  | 0 => frozen_step Z F g fun m h => nomatch h
  | n + 1 => frozen_step Z F g fun m h => by cases h; exact ok_frozenN Z F g n
theorem ok_frozen {fd : FuncData} (Z : Fre mg) (F : FunD K "frozen" "frozen" (defArgs s_frozen) (defBody s_frozen) (defScope s_frozen) [] [] (He.fAd K ("frozen", none)) fd) (g : mg "frozen" = some (.ref (He.fAd K ("frozen", none)))) : Def Pr w K mg base 9 "frozen" ["value"] [] (sp_frozen K) := ok_frozenN Z F g 8

def b_is_arc (arc : Int × Int × Int) (count : Int) : Out Bool :=
(pure arc) >>= fun u1 =>
((if decide (0 ≤ u1.1) = true then pure (decide (u1.1 < count)) else pure false) >>= fun t3 => if t3 = true then (if decide (0 ≤ u1.2.1) = true then pure (decide (u1.2.1 < count)) else pure false) >>= fun t2 => if t2 = true then pure (!decide (u1.1 = u1.2.1)) else pure false else pure false) >>= fun ends_fit =>
if ends_fit = true then if (!decide (u1.1 = 1)) = true then if (!decide (u1.2.1 = 0)) = true then pure (decide (0 ≤ u1.2.2)) else pure false else pure false else pure false
theorem x_is_arc : ∃ g : (Int × Int × Int) → Int → Out Bool, g = b_is_arc := ⟨_, rfl⟩
def m_is_arc : (Int × Int × Int) → Int → Out Bool := Classical.choose x_is_arc
theorem m_is_arc_eq : m_is_arc = b_is_arc := Classical.choose_spec x_is_arc
abbrev P_is_arc : Par ((Int × Int × Int) × Int × Unit) := (pC (tT3 tInt tInt tInt) (pC tInt pN))
abbrev u_is_arc (i : (Int × Int × Int) × Int × Unit) : Out Bool := m_is_arc i.1 i.2.1
theorem sc_is_arc : FnScope ["arc", "count", "tail", "head", "cost", "ends_fit"] ["arc", "count"] (defScope s_is_arc) := ⟨rfl, rfl, rfl, by decide +kernel, rfl, by decide +kernel, by decide +kernel⟩
abbrev sp_is_arc (K : PySem.W.Frag) : Sp := Sps P_is_arc u_is_arc tBool K
theorem ok_is_arc {fd : FuncData} (Z : Fre mg) (F : FunD K "is_arc" "is_arc" (defArgs s_is_arc) (defBody s_is_arc) (defScope s_is_arc) [] [] (He.fAd K ("is_arc", none)) fd) (g : mg "is_arc" = some (.ref (He.fAd K ("is_arc", none))))   (c_GOAL : ∃ t, mg "GOAL" = some (.int 1 t)) (c_HOME : ∃ t, mg "HOME" = some (.int 0 t)) : Def Pr w K mg base 1 "is_arc" ["arc", "count"] [] (sp_is_arc K) := by
  refine ⟨_, fd, [], fn_body F sc_is_arc rfl (by decide) (fun X E B i e1 e2 e3 e4 e5 hW C => ?_), g, F.kp, F.bindsN (fun _ _ _ _ _ _ us hl => match us, hl with | [_, _], _ => rfl), .nil⟩
  subst e1 e2 e3 e4 e5
  obtain ⟨arc, count, _⟩ := i
  show WS X E B [iS (tT3 tInt tInt tInt) arc, iS tInt count, .any, .any, .any, .any] [_] (m_is_arc arc count) _
  rw [m_is_arc_eq]
  unfold b_is_arc
  exact ws_asg C (WE.cast (m' := pure arc) (we_var C 0) (by first | rfl | simp only [bind_as, pure_b])) (wg_t3 C (wg_name C 2) (wg_name C 3) (wg_name C 4)) (fun u1 =>
ws_set C 5 (WE.cast (m' := (if decide (0 ≤ u1.1) = true then pure (decide (u1.1 < count)) else pure false) >>= fun t3 => if t3 = true then (if decide (0 ≤ u1.2.1) = true then pure (decide (u1.2.1 < count)) else pure false) >>= fun t2 => if t2 = true then pure (!decide (u1.1 = u1.2.1)) else pure false else pure false) (we_and (we_chain op_le op_lt we_int (we_var C 2) (we_var C 1)) (we_and (we_chain op_le op_lt we_int (we_var C 3) (we_var C 1)) (we_bo1 (we_ne eqs_int (we_var C 2) (we_var C 3))))) (by first | rfl | simp only [bind_as, pure_b])) (fun ends_fit =>
ws_ret0 (WE.cast (m' := if ends_fit = true then if (!decide (u1.1 = 1)) = true then if (!decide (u1.2.1 = 0)) = true then pure (decide (0 ≤ u1.2.2)) else pure false else pure false else pure false) (we_and (we_var C 5) (we_and (we_ne eqs_int (we_var C 2) (we_gint C c_GOAL)) (we_and (we_ne eqs_int (we_var C 3) (we_gint C c_HOME)) (we_bo1 (we_ge (we_var C 4) we_int))))) (by first | rfl | simp only [bind_as, pure_b])) (fun _ => rfl)))
def b_Web___init__ (rooms : List Int) (gains : List Int) (arcs : PyData) : Out ((List Int) × (List Int) × (List (Int × Int × Int))) :=
(pure rooms) >>= fun f1 =>
(pure gains) >>= fun f2 =>
(((dnO 8 arcs) >>= fun t3 => m_frozen t3) >>= fun t4 => (asTup (asT3 asInt asInt asInt)) t4) >>= fun f5 =>
((pure (enumL f5)) >>= fun xs10 => forO (fun (s6 : Unit) (x7 : Int × (Int × Int × Int)) =>
((m_is_arc x7.2 (f1.length : Int)) >>= fun t8 => pure (!t8)) >>= fun c9 => if c9 = true then (
Out.stuck)
else (
pure ())) xs10 ()) >>= fun s11 =>
pure (f1, f2, f5)
theorem x_Web___init__ : ∃ g : (List Int) → (List Int) → PyData → Out ((List Int) × (List Int) × (List (Int × Int × Int))), g = b_Web___init__ := ⟨_, rfl⟩
def m_Web___init__ : (List Int) → (List Int) → PyData → Out ((List Int) × (List Int) × (List (Int × Int × Int))) := Classical.choose x_Web___init__
theorem m_Web___init___eq : m_Web___init__ = b_Web___init__ := Classical.choose_spec x_Web___init__
abbrev P_Web___init__ : Par ((List Int) × (List Int) × PyData × Unit) := (pC (tLst tInt) (pC (tLst tInt) (pC tD pN)))
abbrev u_Web___init__ (i : (List Int) × (List Int) × PyData × Unit) : Out ((List Int) × (List Int) × (List (Int × Int × Int))) := m_Web___init__ i.1 i.2.1 i.2.2.1
theorem sc_Web___init__ : FnScope ["self", "rooms", "gains", "arcs", "index", "arc"] ["self", "rooms", "gains", "arcs"] (defScope s_Web___init__) := ⟨rfl, rfl, rfl, by decide +kernel, rfl, by decide +kernel, by decide +kernel⟩
abbrev sp_Web___init__ (K : PySem.W.Frag) : Sp := SpsI "Web" P_Web___init__ u_Web___init__ R_Web K
theorem ok_Web___init__ {fd : FuncData} (Z : Fre mg) (F : FunD K "__init__" "Web.__init__" (defArgs s_Web___init__) (defBody s_Web___init__) (defScope s_Web___init__) [] [] (He.ma K (He.ga K "Web") "__init__") fd) (g : mg "Web" = some (.ref (He.ga K "Web"))) (M : Mk K (He.ga K "Web") (He.ma K (He.ga K "Web") "__init__")) (G_frozen : Def Pr w K mg base 9 "frozen" ["value"] [] (sp_frozen K)) (G_is_arc : Def Pr w K mg base 1 "is_arc" ["arc", "count"] [] (sp_is_arc K)) (D_Web : ClsF K "Web" ["rooms", "gains", "arcs"])  : MkD Pr w K mg base 10 "Web" ["self", "rooms", "gains", "arcs"] [] (sp_Web___init__ K) := by
  refine ⟨_, fd, [], fn_bodyI F sc_Web___init__ rfl (by decide) (fun X E B p_ dx_ i e1 e2 e3 e4 e5 C => ?_), g, M, F.bindsN (fun _ _ _ _ _ _ us hl => match us, hl with | [_, _, _, _], _ => rfl), .nil⟩
  subst e1 e2 e3 e4 e5
  obtain ⟨rooms, gains, arcs, _⟩ := i
  show WS X E B [.on _ (oRec "Web" p_ dx_ []) (), iS (tLst tInt) rooms, iS (tLst tInt) gains, iS tD arcs, .any, .any] [_] (m_Web___init__ rooms gains arcs) (fun o => .nx (.on _ (oRec "Web" p_ dx_ (R_Web.fvs o)) () :: anyS 5))
  rw [m_Web___init___eq]
  unfold b_Web___init__
  exact ws_self (T := (tTup tInt)) (q := p_) (dx := dx_) (fs := []) C D_Web 0 [] (WE.cast (m' := pure rooms) (we_tuple C Z (WE.rd (we_var C 1))) (by first | rfl | simp only [bind_as, pure_b])) (fun f1 =>
ws_self (T := (tTup tInt)) (q := p_) (dx := dx_) (fs := [.mk "rooms" (List Int) (tTup tInt) f1]) C D_Web 0 ["rooms"] (WE.cast (m' := pure gains) (we_tuple C Z (WE.rd (we_var C 2))) (by first | rfl | simp only [bind_as, pure_b])) (fun f2 =>
ws_self (T := (tTup (tT3 tInt tInt tInt))) (q := p_) (dx := dx_) (fs := [.mk "rooms" (List Int) (tTup tInt) f1, .mk "gains" (List Int) (tTup tInt) f2]) C D_Web 0 ["rooms", "gains"] (WE.cast (m' := ((dnO 8 arcs) >>= fun t3 => m_frozen t3) >>= fun t4 => (asTup (asT3 asInt asInt asInt)) t4) (we_as (as_tup (as_t3 as_int as_int as_int)) (we_call C G_frozen (by decide) (wa_cons (R := (tDn 8).rl) (WE.cast (m' := dnO 8 arcs) (we_dn (we_var C 3)) (by first | rfl | simp only [bind_as, pure_b])) fun a0 => wa_nil fun K F H s v0 r0 => ⟨(a0, ()), rfl, v0, _, rfl, r0, rfl⟩))) (by first | (simp only [pure_b, bind_as]; done) | rfl)) (fun f5 =>
ws_seq (Δ := (fun (s6 : Unit) => [.on _ (oRec "Web" p_ dx_ [.mk "rooms" (List Int) (tTup tInt) f1, .mk "gains" (List Int) (tTup tInt) f2, .mk "arcs" (List (Int × Int × Int)) (tTup (tT3 tInt tInt tInt)) f5]) (), iS (tLst tInt) rooms, iS (tLst tInt) gains, iS tD arcs, .any, .any])) (w1_for C (WI.cast (m' := pure (enumL f5)) (wi_enumT C Z (we_self (q := p_) (dx := dx_) (fs := [.mk "rooms" (List Int) (tTup tInt) f1, .mk "gains" (List Int) (tTup tInt) f2, .mk "arcs" (List (Int × Int × Int)) (tTup (tT3 tInt tInt tInt)) f5]) C D_Web 0 2 ["rooms", "gains", "arcs"])) (by first | rfl | simp only [bind_as, pure_b])) (wg_t2 C (wg_name C 4) (wg_name C 5)) (Δ := (fun (s6 : Unit) => [.on _ (oRec "Web" p_ dx_ [.mk "rooms" (List Int) (tTup tInt) f1, .mk "gains" (List Int) (tTup tInt) f2, .mk "arcs" (List (Int × Int × Int)) (tTup (tT3 tInt tInt tInt)) f5]) (), iS (tLst tInt) rooms, iS (tLst tInt) gains, iS tD arcs, .any, .any])) (s0 := ()) (Weak.same (Weak.same (Weak.same (Weak.same (Weak.same (Weak.same Weak.nil)))))) (by exact (fun s6 x7 =>
ws_if (WT.cast (m' := (m_is_arc x7.2 (f1.length : Int)) >>= fun t8 => pure (!t8)) (wt_not (wt_val (we_call C G_is_arc (by decide) (wa_cons (R := (tT3 tInt tInt tInt).rl) (we_var C 5) fun a0 => wa_cons (R := tInt.rl) (we_lenT C Z (we_self (q := p_) (dx := dx_) (fs := [.mk "rooms" (List Int) (tTup tInt) f1, .mk "gains" (List Int) (tTup tInt) f2, .mk "arcs" (List (Int × Int × Int)) (tTup (tT3 tInt tInt tInt)) f5]) C D_Web 0 0 ["rooms", "gains", "arcs"])) fun a1 => wa_nil fun K F H s v1 r1 v0 r0 => ⟨(a0, a1, ()), rfl, v0, _, rfl, r0, v1, _, rfl, r1, rfl⟩)))) (by first | (simp only [pure_b, bind_as]; done) | rfl)) (
ws_stuck) (
ws_pop (ws_fin rfl (Weak.same (Weak.same (Weak.same (Weak.same (Weak.any (Weak.any Weak.nil))))))))))) (fun s11 =>
ws_fin rfl (Weak.same (Weak.any (Weak.any (Weak.any (Weak.same (Weak.same Weak.nil))))))))))
def b_Web_node_count (self : (List Int) × (List Int) × (List (Int × Int × Int))) : Out Int :=
pure (self.1.length : Int)
theorem x_Web_node_count : ∃ g : ((List Int) × (List Int) × (List (Int × Int × Int))) → Out Int, g = b_Web_node_count := ⟨_, rfl⟩
def m_Web_node_count : ((List Int) × (List Int) × (List (Int × Int × Int))) → Out Int := Classical.choose x_Web_node_count
theorem m_Web_node_count_eq : m_Web_node_count = b_Web_node_count := Classical.choose_spec x_Web_node_count
abbrev P_Web_node_count : Par (((List Int) × (List Int) × (List (Int × Int × Int))) × Unit) := (pC (tRec "Web" R_Web) pN)
abbrev u_Web_node_count (i : ((List Int) × (List Int) × (List (Int × Int × Int))) × Unit) : Out Int := m_Web_node_count i.1
theorem sc_Web_node_count : FnScope ["self"] ["self"] (defScope s_Web_node_count) := ⟨rfl, rfl, rfl, by decide +kernel, rfl, by decide +kernel, by decide +kernel⟩
abbrev sp_Web_node_count (K : PySem.W.Frag) : Sp := Sps P_Web_node_count u_Web_node_count tInt K
theorem ok_Web_node_count {fd : FuncData} (Z : Fre mg) (F : FunD K "node_count" "Web.node_count" (defArgs s_Web_node_count) (defBody s_Web_node_count) (defScope s_Web_node_count) [] [] (He5.wf K (He.ga K "Web") "property" "node_count") fd) (M : PropOf K (He.ga K "Web") "node_count" (He.ma K (He.ga K "Web") "node_count") (He5.wf K (He.ga K "Web") "property" "node_count"))  (D_Web : ClsF K "Web" ["rooms", "gains", "arcs"])  : PrD Pr w K mg base 1 "Web" "node_count" ["self"] (sp_Web_node_count K) := by
  refine ⟨_, _, fd, fn_body F sc_Web_node_count rfl (by decide) (fun X E B i e1 e2 e3 e4 e5 hW C => ?_), M, F.bindsN (fun _ _ _ _ _ _ us hl => match us, hl with | [_], _ => rfl)⟩
  subst e1 e2 e3 e4 e5
  obtain ⟨self, _⟩ := i
  show WS X E B [iS (tRec "Web" R_Web) self] [_] (m_Web_node_count self) _
  rw [m_Web_node_count_eq]
  unfold b_Web_node_count
  exact ws_ret0 (WE.cast (m' := pure (self.1.length : Int)) (we_lenT C Z (we_fld (T := (tTup tInt)) (R := R_Web) (g := fun (a : (List Int) × (List Int) × (List (Int × Int × Int))) => a.1) D_Web 0 (we_var C 0))) (by first | rfl | simp only [bind_as, pure_b])) (fun _ => rfl)
def b_live_arcs (web : (List Int) × (List Int) × (List (Int × Int × Int))) (units : List Int) : Out (List Int) :=
((pure (enumL units)) >>= fun xs2 => compO (fun p1 => ifO (pure (decide (0 < p1.2))) (pure p1.1)) xs2) >>= fun live =>
(pure true) >>= fun changed =>
(whileO (fun (s3 : Bool × (List Int)) => pure s3.1) (fun (s3 : Bool × (List Int)) =>
(mapO (fun index4 => (idx web.2.2 index4) >>= fun t5 => pure t5.1) s3.2) >>= fun tails =>
((pure s3.2) >>= fun xs10 => compO (fun index7 => ifO (((idx web.2.2 index7) >>= fun t8 => pure t8.2.1) >>= fun t9 => pure (decide (t9 ∈ tails))) (pure index7)) xs10) >>= fun kept =>
(pure (decide ((kept.length : Int) < (s3.2.length : Int)))) >>= fun changed =>
(pure kept) >>= fun live =>
pure (changed, live)) FUEL (changed, live)) >>= fun s11 =>
pure s11.2
theorem x_live_arcs : ∃ g : ((List Int) × (List Int) × (List (Int × Int × Int))) → (List Int) → Out (List Int), g = b_live_arcs := ⟨_, rfl⟩
def m_live_arcs : ((List Int) × (List Int) × (List (Int × Int × Int))) → (List Int) → Out (List Int) := Classical.choose x_live_arcs
theorem m_live_arcs_eq : m_live_arcs = b_live_arcs := Classical.choose_spec x_live_arcs
abbrev P_live_arcs : ParG (((List Int) × (List Int) × (List (Int × Int × Int))) × (List Int) × Unit) (Unit) := (gI (tRec "Web" R_Web) (gB (oLst tInt) gN))
abbrev u_live_arcs (i : ((List Int) × (List Int) × (List (Int × Int × Int))) × (List Int) × Unit) : Out (List Int) := m_live_arcs i.1 i.2.1
theorem sc_live_arcs : FnScope ["web", "units", "live", "changed", "tails", "kept", "index", "number"] ["web", "units"] (defScope s_live_arcs) := ⟨rfl, rfl, rfl, by decide +kernel, rfl, by decide +kernel, by decide +kernel⟩
abbrev sp_live_arcs (K : PySem.W.Frag) : Sp := SpsB P_live_arcs u_live_arcs (tLst tInt) K
theorem ok_live_arcs {fd : FuncData} (Z : Fre mg) (F : FunD K "live_arcs" "live_arcs" (defArgs s_live_arcs) (defBody s_live_arcs) (defScope s_live_arcs) [] [] (He.fAd K ("live_arcs", none)) fd) (g : mg "live_arcs" = some (.ref (He.fAd K ("live_arcs", none))))  (D_Web : ClsF K "Web" ["rooms", "gains", "arcs"])  : Def Pr w K mg base 1 "live_arcs" ["web", "units"] [] (sp_live_arcs K) := by
  refine ⟨_, fd, [], fn_bodyB F sc_live_arcs rfl (by decide) (fun X E B vs i e1 e2 e3 e4 e5 hW C hl => ?_), g, F.kp, F.bindsN (fun _ _ _ _ _ _ us hl => match us, hl with | [_, _], _ => rfl), .nil⟩
  subst e1 e2 e3 e4 e5
  obtain ⟨web, units, _⟩ := i
  match vs, hl with
  | [v0, v1], _ =>
  show WS X E B [iS (tRec "Web" R_Web) web, iS (tBor B (oLst tInt)) units, .any, .any, .any, .any, .any, .any] [_] (m_live_arcs web units) _
  rw [m_live_arcs_eq]
  unfold b_live_arcs
  exact ws_lcif (f := _) C 2 [("index", 6), ("number", 7)] (by decide +kernel) (WIg.s (WI.cast (m' := pure (enumL units)) (wi_enumLs C Z (ls_bor (T := tInt)) (we_var C 1)) (by first | rfl | simp only [bind_as, pure_b]))) (ix := ([6] ++ [7])) (by decide) (fun s_ H_ Cc_ cl_ fp_ C => (wg_t2 C (wg_name C 6) (wg_name C 7))) (fun s_ H_ Cc_ cl_ fp_ p1 C => WTs.cast (m' := pure (decide (0 < p1.2))) (wts_one (wt_gt (we_var C 7) we_int)) rfl) (fun s_ H_ Cc_ cl_ fp_ p1 C => WE.cast (m' := pure p1.1) (we_var C 6) (by first | rfl | simp only [bind_as, pure_b])) (fun live => ws_fz 2 (fz_lst _) hW rfl (
ws_set C 3 (WE.cast (m' := pure true) we_bl (by first | rfl | simp only [bind_as, pure_b])) (fun changed =>
ws_seq (Δ := (fun (s3 : Bool × (List Int)) => [iS (tRec "Web" R_Web) web, iS (tBor B (oLst tInt)) units, iS (tLst tInt) s3.2, iS tBool s3.1, .any, .any, .any, .any])) (w1_while C (Δ := (fun (s3 : Bool × (List Int)) => [iS (tRec "Web" R_Web) web, iS (tBor B (oLst tInt)) units, iS (tLst tInt) s3.2, iS tBool s3.1, .any, .any, .any, .any])) (s0 := (changed, live)) FUEL (Weak.same (Weak.same (Weak.same (Weak.same (Weak.same (Weak.same (Weak.same (Weak.same Weak.nil)))))))) (fun s3 => WT.cast (m' := pure s3.1) (wt_val (we_var C 3)) (by first | rfl | simp only [bind_as, pure_b])) (by exact (fun s3 =>
ws_set C 4 (WE.cast (m' := mapO (fun index4 => (idx web.2.2 index4) >>= fun t5 => pure t5.1) s3.2) (WO.fz (wo_lc C [("index", 6)] (by decide +kernel) (WIg.s (WI.cast (m' := pure s3.2) (wi_lst (we_var C 2)) (by first | rfl | simp only [bind_as, pure_b]))) (ix := [6]) (by decide) (fun s_ H_ Cc_ cl_ fp_ C => (wg_name C 6)) (fun s_ H_ Cc_ cl_ fp_ index4 C => WE.cast (m' := (idx web.2.2 index4) >>= fun t5 => pure t5.1) (we_prj pj30 (we_ixT (we_fld (T := (tTup (tT3 tInt tInt tInt))) (R := R_Web) (g := fun (a : (List Int) × (List Int) × (List (Int × Int × Int))) => a.2.2) D_Web 2 (we_var C 0)) (we_var C 6))) (by first | rfl | simp only [bind_as, pure_b]))) (fz_lst _)) (by first | rfl | simp only [bind_as, pure_b])) (hs := sw_no C (by first | exact Or.inl rfl | exact Or.inr (by decide +kernel))) (fun tails =>
ws_lcif (f := _) C 5 [("index", 6)] (by decide +kernel) (WIg.s (WI.cast (m' := pure s3.2) (wi_lst (we_var C 2)) (by first | rfl | simp only [bind_as, pure_b]))) (ix := [6]) (by decide) (fun s_ H_ Cc_ cl_ fp_ C => (wg_name C 6)) (fun s_ H_ Cc_ cl_ fp_ index7 C => WTs.cast (m' := ((idx web.2.2 index7) >>= fun t8 => pure t8.2.1) >>= fun t9 => pure (decide (t9 ∈ tails))) (wts_one (wt_inL eqf_int (we_prj pj31 (we_ixT (we_fld (T := (tTup (tT3 tInt tInt tInt))) (R := R_Web) (g := fun (a : (List Int) × (List Int) × (List (Int × Int × Int))) => a.2.2) D_Web 2 (we_var C 0)) (we_var C 6))) (WE.rd (we_var C 4)))) rfl) (fun s_ H_ Cc_ cl_ fp_ index7 C => WE.cast (m' := pure index7) (we_var C 6) (by first | rfl | simp only [bind_as, pure_b])) (fun kept => ws_fz 5 (fz_lst _) hW rfl (
ws_set C 3 (WE.cast (m' := pure (decide ((kept.length : Int) < (s3.2.length : Int)))) (we_lt (we_lenL C Z (WE.rd (we_var C 5))) (we_lenL C Z (WE.rd (we_var C 2)))) (by first | rfl | simp only [bind_as, pure_b])) (fun changed =>
ws_set C 2 (WE.cast (m' := pure kept) (we_var C 5) (by first | rfl | simp only [bind_as, pure_b])) (fun live =>
ws_fin rfl (Weak.same (Weak.same (Weak.same (Weak.same (Weak.any (Weak.any (Weak.same (Weak.same Weak.nil)))))))))))))))) (fun s11 =>
ws_ret0 (WE.cast (m' := pure s11.2) (we_var C 2) (by first | rfl | simp only [bind_as, pure_b])) (fun _ => rfl)))))
def b_next_arc (web : (List Int) × (List Int) × (List (Int × Int × Int))) (live : List Int) (index : Int) : Out Int :=
(compO (fun other1 => ifO (((idx web.2.2 other1) >>= fun t2 => pure t2.1) >>= fun t4 => ((idx web.2.2 index) >>= fun t3 => pure t3.2.1) >>= fun t5 => pure (decide (t4 = t5))) (pure other1)) live) >>= fun t7 => idx t7 0
theorem x_next_arc : ∃ g : ((List Int) × (List Int) × (List (Int × Int × Int))) → (List Int) → Int → Out Int, g = b_next_arc := ⟨_, rfl⟩
def m_next_arc : ((List Int) × (List Int) × (List (Int × Int × Int))) → (List Int) → Int → Out Int := Classical.choose x_next_arc
theorem m_next_arc_eq : m_next_arc = b_next_arc := Classical.choose_spec x_next_arc
abbrev P_next_arc : Par (((List Int) × (List Int) × (List (Int × Int × Int))) × (List Int) × Int × Unit) := (pC (tRec "Web" R_Web) (pC (tLst tInt) (pC tInt pN)))
abbrev u_next_arc (i : ((List Int) × (List Int) × (List (Int × Int × Int))) × (List Int) × Int × Unit) : Out Int := m_next_arc i.1 i.2.1 i.2.2.1
theorem sc_next_arc : FnScope ["web", "live", "index", "other"] ["web", "live", "index"] (defScope s_next_arc) := ⟨rfl, rfl, rfl, by decide +kernel, rfl, by decide +kernel, by decide +kernel⟩
abbrev sp_next_arc (K : PySem.W.Frag) : Sp := Sps P_next_arc u_next_arc tInt K
theorem ok_next_arc {fd : FuncData} (Z : Fre mg) (F : FunD K "next_arc" "next_arc" (defArgs s_next_arc) (defBody s_next_arc) (defScope s_next_arc) [] [] (He.fAd K ("next_arc", none)) fd) (g : mg "next_arc" = some (.ref (He.fAd K ("next_arc", none))))  (D_Web : ClsF K "Web" ["rooms", "gains", "arcs"])  : Def Pr w K mg base 1 "next_arc" ["web", "live", "index"] [] (sp_next_arc K) := by
  refine ⟨_, fd, [], fn_body F sc_next_arc rfl (by decide) (fun X E B i e1 e2 e3 e4 e5 hW C => ?_), g, F.kp, F.bindsN (fun _ _ _ _ _ _ us hl => match us, hl with | [_, _, _], _ => rfl), .nil⟩
  subst e1 e2 e3 e4 e5
  obtain ⟨web, live, index, _⟩ := i
  show WS X E B [iS (tRec "Web" R_Web) web, iS (tLst tInt) live, iS tInt index, .any] [_] (m_next_arc web live index) _
  rw [m_next_arc_eq]
  unfold b_next_arc
  exact ws_ret0 (WE.cast (m' := (compO (fun other1 => ifO (((idx web.2.2 other1) >>= fun t2 => pure t2.1) >>= fun t4 => ((idx web.2.2 index) >>= fun t3 => pure t3.2.1) >>= fun t5 => pure (decide (t4 = t5))) (pure other1)) live) >>= fun t7 => idx t7 0) (we_ixL (WO.rd (wo_lcif C [("other", 3)] (by decide +kernel) (WIg.s (WI.cast (m' := pure live) (wi_lst (we_var C 1)) (by first | rfl | simp only [bind_as, pure_b]))) (ix := [3]) (by decide) (fun s_ H_ Cc_ cl_ fp_ C => (wg_name C 3)) (fun s_ H_ Cc_ cl_ fp_ other1 C => WTs.cast (m' := ((idx web.2.2 other1) >>= fun t2 => pure t2.1) >>= fun t4 => ((idx web.2.2 index) >>= fun t3 => pure t3.2.1) >>= fun t5 => pure (decide (t4 = t5))) (wts_one (wt_eq eqs_int (we_prj pj30 (we_ixT (we_fld (T := (tTup (tT3 tInt tInt tInt))) (R := R_Web) (g := fun (a : (List Int) × (List Int) × (List (Int × Int × Int))) => a.2.2) D_Web 2 (we_var C 0)) (we_var C 3))) (we_prj pj31 (we_ixT (we_fld (T := (tTup (tT3 tInt tInt tInt))) (R := R_Web) (g := fun (a : (List Int) × (List Int) × (List (Int × Int × Int))) => a.2.2) D_Web 2 (we_var C 0)) (we_var C 2))))) rfl) (fun s_ H_ Cc_ cl_ fp_ other1 C => WE.cast (m' := pure other1) (we_var C 3) (by first | rfl | simp only [bind_as, pure_b])))) we_int) (by first | rfl | simp only [bind_as, pure_b])) (fun _ => rfl)
def b_found_ring (web : (List Int) × (List Int) × (List (Int × Int × Int))) (live : List Int) : Out (List Int) :=
((idx live 0) >>= fun t1 => pure [t1]) >>= fun walk =>
((idx live 0) >>= fun t2 => m_next_arc web live t2) >>= fun index =>
(whileO (fun (s3 : Int × (List Int)) => pure (!decide (s3.1 ∈ s3.2))) (fun (s3 : Int × (List Int)) =>
(pure s3.1) >>= fun a4 => appO s3.2 a4 >>= fun walk =>
(m_next_arc web live s3.1) >>= fun index =>
pure (index, walk)) FUEL (index, walk)) >>= fun s5 =>
((indexO s5.2 s5.1) >>= fun t6 => pure (some t6)) >>= fun t7 => pure (cut s5.2 t7 none)
theorem x_found_ring : ∃ g : ((List Int) × (List Int) × (List (Int × Int × Int))) → (List Int) → Out (List Int), g = b_found_ring := ⟨_, rfl⟩
def m_found_ring : ((List Int) × (List Int) × (List (Int × Int × Int))) → (List Int) → Out (List Int) := Classical.choose x_found_ring
theorem m_found_ring_eq : m_found_ring = b_found_ring := Classical.choose_spec x_found_ring
abbrev P_found_ring : Par (((List Int) × (List Int) × (List (Int × Int × Int))) × (List Int) × Unit) := (pC (tRec "Web" R_Web) (pC (tLst tInt) pN))
abbrev u_found_ring (i : ((List Int) × (List Int) × (List (Int × Int × Int))) × (List Int) × Unit) : Out (List Int) := m_found_ring i.1 i.2.1
theorem sc_found_ring : FnScope ["web", "live", "walk", "index"] ["web", "live"] (defScope s_found_ring) := ⟨rfl, rfl, rfl, by decide +kernel, rfl, by decide +kernel, by decide +kernel⟩
abbrev sp_found_ring (K : PySem.W.Frag) : Sp := Sps P_found_ring u_found_ring (tLst tInt) K
theorem ok_found_ring {fd : FuncData} (Z : Fre mg) (F : FunD K "found_ring" "found_ring" (defArgs s_found_ring) (defBody s_found_ring) (defScope s_found_ring) [] [] (He.fAd K ("found_ring", none)) fd) (g : mg "found_ring" = some (.ref (He.fAd K ("found_ring", none)))) (G_next_arc : Def Pr w K mg base 1 "next_arc" ["web", "live", "index"] [] (sp_next_arc K))   : Def Pr w K mg base 2 "found_ring" ["web", "live"] [] (sp_found_ring K) := by
  refine ⟨_, fd, [], fn_body F sc_found_ring rfl (by decide) (fun X E B i e1 e2 e3 e4 e5 hW C => ?_), g, F.kp, F.bindsN (fun _ _ _ _ _ _ us hl => match us, hl with | [_, _], _ => rfl), .nil⟩
  subst e1 e2 e3 e4 e5
  obtain ⟨web, live, _⟩ := i
  show WS X E B [iS (tRec "Web" R_Web) web, iS (tLst tInt) live, .any, .any] [_] (m_found_ring web live) _
  rw [m_found_ring_eq]
  unfold b_found_ring
  exact ws_setO C 2 (WO.cast (m' := (idx live 0) >>= fun t1 => pure [t1]) (wo_lst (wal_cons (WE.cast (m' := idx live 0) (we_ixL (WE.rd (we_var C 1)) we_int) (by first | rfl | simp only [bind_as, pure_b])) wal_nil)) (by first | rfl | simp only [bind_as, pure_b])) (fun walk =>
ws_set C 3 (WE.cast (m' := (idx live 0) >>= fun t2 => m_next_arc web live t2) (we_call C G_next_arc (by decide) (wa_cons (R := (tRec "Web" R_Web).rl) (we_var C 0) fun a0 => wa_cons (R := (tLst tInt).rl) (we_var C 1) fun a1 => wa_cons (R := tInt.rl) (WE.cast (m' := idx live 0) (we_ixL (WE.rd (we_var C 1)) we_int) (by first | rfl | simp only [bind_as, pure_b])) fun a2 => wa_nil fun K F H s v2 r2 v1 r1 v0 r0 => ⟨(a0, a1, a2, ()), rfl, v0, _, rfl, r0, v1, _, rfl, r1, v2, _, rfl, r2, rfl⟩)) (by first | (simp only [pure_b, bind_as]; done) | rfl)) (fun index =>
ws_seq (Δ := (fun (s3 : Int × (List Int)) => [iS (tRec "Web" R_Web) web, iS (tLst tInt) live, .on _ (oLst tInt) s3.2, iS tInt s3.1])) (w1_while C (Δ := (fun (s3 : Int × (List Int)) => [iS (tRec "Web" R_Web) web, iS (tLst tInt) live, .on _ (oLst tInt) s3.2, iS tInt s3.1])) (s0 := (index, walk)) FUEL (Weak.same (Weak.same (Weak.same (Weak.same Weak.nil)))) (fun s3 => WT.cast (m' := pure (!decide (s3.1 ∈ s3.2))) (wt_niL eqf_int (we_var C 3) (WE.hr (we_ovar C 2))) (by first | rfl | simp only [bind_as, pure_b])) (by exact (fun s3 =>
ws_app C 2 (WE.cast (m' := pure s3.1) (we_var C 3) (by first | rfl | simp only [bind_as, pure_b])) (fun walk =>
ws_set C 3 (WE.cast (m' := m_next_arc web live s3.1) (we_call C G_next_arc (by decide) (wa_cons (R := (tRec "Web" R_Web).rl) (we_var C 0) fun a0 => wa_cons (R := (tLst tInt).rl) (we_var C 1) fun a1 => wa_cons (R := tInt.rl) (we_var C 3) fun a2 => wa_nil fun K F H s v2 r2 v1 r1 v0 r0 => ⟨(a0, a1, a2, ()), rfl, v0, _, rfl, r0, v1, _, rfl, r1, v2, _, rfl, r2, rfl⟩)) (by first | (simp only [pure_b, bind_as]; done) | rfl)) (fun index =>
ws_fin rfl (Weak.same (Weak.same (Weak.same (Weak.same Weak.nil))))))))) (fun s5 =>
ws_ret0 (WE.cast (m' := ((indexO s5.2 s5.1) >>= fun t6 => pure (some t6)) >>= fun t7 => pure (cut s5.2 t7 none)) (WO.fz (wo_cut (WE.hr (we_ovar C 2)) (wp_is (we_indexL C eqf_int (WE.hr (we_ovar C 2)) (we_var C 3))) wp_no) (fz_lst _)) (by first | rfl | simp only [bind_as, pure_b])) (fun _ => rfl))))
def b_without_rings (web : (List Int) × (List Int) × (List (Int × Int × Int))) (units : List Int) : Out (List Int) :=
(pure units) >>= fun left =>
(m_live_arcs web left) >>= fun live =>
(whileO (fun (s1 : (List Int) × (List Int)) => pure (!s1.1.isEmpty)) (fun (s1 : (List Int) × (List Int)) =>
(m_found_ring web s1.1) >>= fun ring =>
((mapO (fun index2 => idx s1.2 index2) ring) >>= fun t4 => minL t4) >>= fun amount =>
((pure ring) >>= fun xs12 => forO (fun (s5 : (List Int)) (x6 : Int) =>
(pure (s5, fun b => b)) >>= fun r7 => (pure x6) >>= fun j8 => idx r7.1 j8 >>= fun x9 => (pure amount) >>= fun y10 => setO r7.1 j8 (x9 - y10) >>= fun l11 =>
pure (r7.2 l11)) xs12 s1.2) >>= fun s13 =>
(m_live_arcs web s13) >>= fun live =>
pure (live, s13)) FUEL (live, left)) >>= fun s14 =>
pure s14.2
theorem x_without_rings : ∃ g : ((List Int) × (List Int) × (List (Int × Int × Int))) → (List Int) → Out (List Int), g = b_without_rings := ⟨_, rfl⟩
def m_without_rings : ((List Int) × (List Int) × (List (Int × Int × Int))) → (List Int) → Out (List Int) := Classical.choose x_without_rings
theorem m_without_rings_eq : m_without_rings = b_without_rings := Classical.choose_spec x_without_rings
abbrev P_without_rings : Par (((List Int) × (List Int) × (List (Int × Int × Int))) × (List Int) × Unit) := (pC (tRec "Web" R_Web) (pC (tLst tInt) pN))
abbrev u_without_rings (i : ((List Int) × (List Int) × (List (Int × Int × Int))) × (List Int) × Unit) : Out (List Int) := m_without_rings i.1 i.2.1
theorem sc_without_rings : FnScope ["web", "units", "left", "live", "ring", "amount", "index"] ["web", "units"] (defScope s_without_rings) := ⟨rfl, rfl, rfl, by decide +kernel, rfl, by decide +kernel, by decide +kernel⟩
abbrev sp_without_rings (K : PySem.W.Frag) : Sp := Sps P_without_rings u_without_rings (tTup tInt) K
theorem ok_without_rings {fd : FuncData} (Z : Fre mg) (F : FunD K "without_rings" "without_rings" (defArgs s_without_rings) (defBody s_without_rings) (defScope s_without_rings) [] [] (He.fAd K ("without_rings", none)) fd) (g : mg "without_rings" = some (.ref (He.fAd K ("without_rings", none)))) (G_live_arcs : Def Pr w K mg base 1 "live_arcs" ["web", "units"] [] (sp_live_arcs K)) (G_found_ring : Def Pr w K mg base 2 "found_ring" ["web", "live"] [] (sp_found_ring K))   : Def Pr w K mg base 3 "without_rings" ["web", "units"] [] (sp_without_rings K) := by
  refine ⟨_, fd, [], fn_body F sc_without_rings rfl (by decide) (fun X E B i e1 e2 e3 e4 e5 hW C => ?_), g, F.kp, F.bindsN (fun _ _ _ _ _ _ us hl => match us, hl with | [_, _], _ => rfl), .nil⟩
  subst e1 e2 e3 e4 e5
  obtain ⟨web, units, _⟩ := i
  show WS X E B [iS (tRec "Web" R_Web) web, iS (tLst tInt) units, .any, .any, .any, .any, .any] [_] (m_without_rings web units) _
  rw [m_without_rings_eq]
  unfold b_without_rings
  exact ws_setO C 2 (WO.cast (m' := pure units) (wo_list C Z (WE.rd (we_var C 1))) (by first | rfl | simp only [bind_as, pure_b])) (fun left =>
ws_set C 3 (WE.cast (m' := m_live_arcs web left) (we_callB C G_live_arcs (by decide) (was_cons (R := (tRec "Web" R_Web).rl) (we_var C 0) fun a0 => was_io C 2 (was_nil fun σ ω F H en v1 r1 v0 r0 => ⟨(a0, left, ()), rfl, v0, _, rfl, r0, v1, _, rfl, (bo_no (bo_own (is := []) en 2 r1)), rfl⟩))) (by first | (simp only [pure_b, bind_as]; done) | rfl)) (fun live =>
ws_seq (Δ := (fun (s1 : (List Int) × (List Int)) => [iS (tRec "Web" R_Web) web, iS (tLst tInt) units, .on _ (oLst tInt) s1.2, iS (tLst tInt) s1.1, .any, .any, .any])) (w1_while C (Δ := (fun (s1 : (List Int) × (List Int)) => [iS (tRec "Web" R_Web) web, iS (tLst tInt) units, .on _ (oLst tInt) s1.2, iS (tLst tInt) s1.1, .any, .any, .any])) (s0 := (live, left)) FUEL (Weak.same (Weak.same (Weak.same (Weak.same (Weak.same (Weak.same (Weak.same Weak.nil))))))) (fun s1 => WT.cast (m' := pure (!s1.1.isEmpty)) (wt_lst (WE.rd (we_var C 3))) (by first | rfl | simp only [bind_as, pure_b])) (by exact (fun s1 =>
ws_set C 4 (WE.cast (m' := m_found_ring web s1.1) (we_call C G_found_ring (by decide) (wa_cons (R := (tRec "Web" R_Web).rl) (we_var C 0) fun a0 => wa_cons (R := (tLst tInt).rl) (we_var C 3) fun a1 => wa_nil fun K F H s v1 r1 v0 r0 => ⟨(a0, a1, ()), rfl, v0, _, rfl, r0, v1, _, rfl, r1, rfl⟩)) (by first | (simp only [pure_b, bind_as]; done) | rfl)) (fun ring =>
ws_set C 5 (WE.cast (m' := (mapO (fun index2 => idx s1.2 index2) ring) >>= fun t4 => minL t4) (we_minL C Z (WO.rd (wo_lc C [("index", 6)] (by decide +kernel) (WIg.s (WI.cast (m' := pure ring) (wi_lst (we_var C 4)) (by first | rfl | simp only [bind_as, pure_b]))) (ix := [6]) (by decide) (fun s_ H_ Cc_ cl_ fp_ C => (wg_name C 6)) (fun s_ H_ Cc_ cl_ fp_ index2 C => WE.cast (m' := idx s1.2 index2) (we_ixL (WE.hr (we_ovar C 2)) (we_var C 6)) (by first | rfl | simp only [bind_as, pure_b]))))) (by first | rfl | simp only [bind_as, pure_b])) (fun amount =>
ws_seq (Δ := (fun (s5 : (List Int)) => [iS (tRec "Web" R_Web) web, iS (tLst tInt) units, .on _ (oLst tInt) s5, iS (tLst tInt) s1.1, iS (tLst tInt) ring, iS tInt amount, .any])) (w1_for C (WI.cast (m' := pure ring) (wi_lst (we_var C 4)) (by first | rfl | simp only [bind_as, pure_b])) (wg_name C 6) (Δ := (fun (s5 : (List Int)) => [iS (tRec "Web" R_Web) web, iS (tLst tInt) units, .on _ (oLst tInt) s5, iS (tLst tInt) s1.1, iS (tLst tInt) ring, iS tInt amount, .any])) (s0 := s1.2) (Weak.same (Weak.same (Weak.same (Weak.same (Weak.same (Weak.same (Weak.same Weak.nil))))))) (by exact (fun s5 x6 =>
ws_augS 2 (g := fun x y => x - y) ip_sub (WL.cast (m' := pure (s5, fun b => b)) (wl_var C 2) (by first | rfl | simp only [bind_as, pure_b])) (WE.cast (m' := pure x6) (we_var C 6) (by first | rfl | simp only [bind_as, pure_b])) (WE.cast (m' := pure amount) (we_var C 5) (by first | rfl | simp only [bind_as, pure_b])) (fun r7 l11 =>
ws_fin rfl (Weak.same (Weak.same (Weak.same (Weak.same (Weak.same (Weak.same (Weak.any Weak.nil))))))))))) (fun s13 =>
ws_set C 3 (WE.cast (m' := m_live_arcs web s13) (we_callB C G_live_arcs (by decide) (was_cons (R := (tRec "Web" R_Web).rl) (we_var C 0) fun a0 => was_io C 2 (was_nil fun σ ω F H en v1 r1 v0 r0 => ⟨(a0, s13, ()), rfl, v0, _, rfl, r0, v1, _, rfl, (bo_no (bo_own (is := []) en 2 r1)), rfl⟩))) (by first | (simp only [pure_b, bind_as]; done) | rfl)) (fun live =>
ws_fin rfl (Weak.same (Weak.same (Weak.same (Weak.same (Weak.any (Weak.any (Weak.same Weak.nil)))))))))))))) (fun s14 =>
ws_ret0 (WE.cast (m' := pure s14.2) (we_tuple C Z (WE.hr (we_ovar C 2))) (by first | rfl | simp only [bind_as, pure_b])) (fun _ => rfl))))
def b_without_ringsT (web : (List Int) × (List Int) × (List (Int × Int × Int))) (units : List Int) : Out (List Int) :=
(pure units) >>= fun left =>
(m_live_arcs web left) >>= fun live =>
(whileO (fun (s1 : (List Int) × (List Int)) => pure (!s1.1.isEmpty)) (fun (s1 : (List Int) × (List Int)) =>
(m_found_ring web s1.1) >>= fun ring =>
((mapO (fun index2 => idx s1.2 index2) ring) >>= fun t4 => minL t4) >>= fun amount =>
((pure ring) >>= fun xs12 => forO (fun (s5 : (List Int)) (x6 : Int) =>
(pure (s5, fun b => b)) >>= fun r7 => (pure x6) >>= fun j8 => idx r7.1 j8 >>= fun x9 => (pure amount) >>= fun y10 => setO r7.1 j8 (x9 - y10) >>= fun l11 =>
pure (r7.2 l11)) xs12 s1.2) >>= fun s13 =>
(m_live_arcs web s13) >>= fun live =>
pure (live, s13)) FUEL (live, left)) >>= fun s14 =>
pure s14.2
theorem x_without_ringsT : ∃ g : ((List Int) × (List Int) × (List (Int × Int × Int))) → (List Int) → Out (List Int), g = b_without_ringsT := ⟨_, rfl⟩
def m_without_ringsT : ((List Int) × (List Int) × (List (Int × Int × Int))) → (List Int) → Out (List Int) := Classical.choose x_without_ringsT
theorem m_without_ringsT_eq : m_without_ringsT = b_without_ringsT := Classical.choose_spec x_without_ringsT
abbrev P_without_ringsT : Par (((List Int) × (List Int) × (List (Int × Int × Int))) × (List Int) × Unit) := (pC (tRec "Web" R_Web) (pC (tTup tInt) pN))
abbrev u_without_ringsT (i : ((List Int) × (List Int) × (List (Int × Int × Int))) × (List Int) × Unit) : Out (List Int) := m_without_ringsT i.1 i.2.1
theorem sc_without_ringsT : FnScope ["web", "units", "left", "live", "ring", "amount", "index"] ["web", "units"] (defScope s_without_rings) := ⟨rfl, rfl, rfl, by decide +kernel, rfl, by decide +kernel, by decide +kernel⟩
abbrev sp_without_ringsT (K : PySem.W.Frag) : Sp := Sps P_without_ringsT u_without_ringsT (tTup tInt) K
theorem ok_without_ringsT {fd : FuncData} (Z : Fre mg) (F : FunD K "without_rings" "without_rings" (defArgs s_without_rings) (defBody s_without_rings) (defScope s_without_rings) [] [] (He.fAd K ("without_rings", none)) fd) (g : mg "without_rings" = some (.ref (He.fAd K ("without_rings", none)))) (G_live_arcs : Def Pr w K mg base 1 "live_arcs" ["web", "units"] [] (sp_live_arcs K)) (G_found_ring : Def Pr w K mg base 2 "found_ring" ["web", "live"] [] (sp_found_ring K))   : Def Pr w K mg base 3 "without_rings" ["web", "units"] [] (sp_without_ringsT K) := by
  refine ⟨_, fd, [], fn_body F sc_without_ringsT rfl (by decide) (fun X E B i e1 e2 e3 e4 e5 hW C => ?_), g, F.kp, F.bindsN (fun _ _ _ _ _ _ us hl => match us, hl with | [_, _], _ => rfl), .nil⟩
  subst e1 e2 e3 e4 e5
  obtain ⟨web, units, _⟩ := i
  show WS X E B [iS (tRec "Web" R_Web) web, iS (tTup tInt) units, .any, .any, .any, .any, .any] [_] (m_without_ringsT web units) _
  rw [m_without_ringsT_eq]
  unfold b_without_ringsT
  exact ws_setO C 2 (WO.cast (m' := pure units) (wo_listT C Z (we_var C 1)) (by first | rfl | simp only [bind_as, pure_b])) (fun left =>
ws_set C 3 (WE.cast (m' := m_live_arcs web left) (we_callB C G_live_arcs (by decide) (was_cons (R := (tRec "Web" R_Web).rl) (we_var C 0) fun a0 => was_io C 2 (was_nil fun σ ω F H en v1 r1 v0 r0 => ⟨(a0, left, ()), rfl, v0, _, rfl, r0, v1, _, rfl, (bo_no (bo_own (is := []) en 2 r1)), rfl⟩))) (by first | (simp only [pure_b, bind_as]; done) | rfl)) (fun live =>
ws_seq (Δ := (fun (s1 : (List Int) × (List Int)) => [iS (tRec "Web" R_Web) web, iS (tTup tInt) units, .on _ (oLst tInt) s1.2, iS (tLst tInt) s1.1, .any, .any, .any])) (w1_while C (Δ := (fun (s1 : (List Int) × (List Int)) => [iS (tRec "Web" R_Web) web, iS (tTup tInt) units, .on _ (oLst tInt) s1.2, iS (tLst tInt) s1.1, .any, .any, .any])) (s0 := (live, left)) FUEL (Weak.same (Weak.same (Weak.same (Weak.same (Weak.same (Weak.same (Weak.same Weak.nil))))))) (fun s1 => WT.cast (m' := pure (!s1.1.isEmpty)) (wt_lst (WE.rd (we_var C 3))) (by first | rfl | simp only [bind_as, pure_b])) (by exact (fun s1 =>
ws_set C 4 (WE.cast (m' := m_found_ring web s1.1) (we_call C G_found_ring (by decide) (wa_cons (R := (tRec "Web" R_Web).rl) (we_var C 0) fun a0 => wa_cons (R := (tLst tInt).rl) (we_var C 3) fun a1 => wa_nil fun K F H s v1 r1 v0 r0 => ⟨(a0, a1, ()), rfl, v0, _, rfl, r0, v1, _, rfl, r1, rfl⟩)) (by first | (simp only [pure_b, bind_as]; done) | rfl)) (fun ring =>
ws_set C 5 (WE.cast (m' := (mapO (fun index2 => idx s1.2 index2) ring) >>= fun t4 => minL t4) (we_minL C Z (WO.rd (wo_lc C [("index", 6)] (by decide +kernel) (WIg.s (WI.cast (m' := pure ring) (wi_lst (we_var C 4)) (by first | rfl | simp only [bind_as, pure_b]))) (ix := [6]) (by decide) (fun s_ H_ Cc_ cl_ fp_ C => (wg_name C 6)) (fun s_ H_ Cc_ cl_ fp_ index2 C => WE.cast (m' := idx s1.2 index2) (we_ixL (WE.hr (we_ovar C 2)) (we_var C 6)) (by first | rfl | simp only [bind_as, pure_b]))))) (by first | rfl | simp only [bind_as, pure_b])) (fun amount =>
ws_seq (Δ := (fun (s5 : (List Int)) => [iS (tRec "Web" R_Web) web, iS (tTup tInt) units, .on _ (oLst tInt) s5, iS (tLst tInt) s1.1, iS (tLst tInt) ring, iS tInt amount, .any])) (w1_for C (WI.cast (m' := pure ring) (wi_lst (we_var C 4)) (by first | rfl | simp only [bind_as, pure_b])) (wg_name C 6) (Δ := (fun (s5 : (List Int)) => [iS (tRec "Web" R_Web) web, iS (tTup tInt) units, .on _ (oLst tInt) s5, iS (tLst tInt) s1.1, iS (tLst tInt) ring, iS tInt amount, .any])) (s0 := s1.2) (Weak.same (Weak.same (Weak.same (Weak.same (Weak.same (Weak.same (Weak.same Weak.nil))))))) (by exact (fun s5 x6 =>
ws_augS 2 (g := fun x y => x - y) ip_sub (WL.cast (m' := pure (s5, fun b => b)) (wl_var C 2) (by first | rfl | simp only [bind_as, pure_b])) (WE.cast (m' := pure x6) (we_var C 6) (by first | rfl | simp only [bind_as, pure_b])) (WE.cast (m' := pure amount) (we_var C 5) (by first | rfl | simp only [bind_as, pure_b])) (fun r7 l11 =>
ws_fin rfl (Weak.same (Weak.same (Weak.same (Weak.same (Weak.same (Weak.same (Weak.any Weak.nil))))))))))) (fun s13 =>
ws_set C 3 (WE.cast (m' := m_live_arcs web s13) (we_callB C G_live_arcs (by decide) (was_cons (R := (tRec "Web" R_Web).rl) (we_var C 0) fun a0 => was_io C 2 (was_nil fun σ ω F H en v1 r1 v0 r0 => ⟨(a0, s13, ()), rfl, v0, _, rfl, r0, v1, _, rfl, (bo_no (bo_own (is := []) en 2 r1)), rfl⟩))) (by first | (simp only [pure_b, bind_as]; done) | rfl)) (fun live =>
ws_fin rfl (Weak.same (Weak.same (Weak.same (Weak.same (Weak.any (Weak.any (Weak.same Weak.nil)))))))))))))) (fun s14 =>
ws_ret0 (WE.cast (m' := pure s14.2) (we_tuple C Z (WE.hr (we_ovar C 2))) (by first | rfl | simp only [bind_as, pure_b])) (fun _ => rfl))))
def b_node_sums (web : (List Int) × (List Int) × (List (Int × Int × Int))) (units : List Int) : Out ((List Int) × (List Int)) :=
((noErr (m_Web_node_count web)) >>= fun t1 => repO [0] t1) >>= fun incoming =>
((noErr (m_Web_node_count web)) >>= fun t2 => repO [0] t2) >>= fun leaving =>
((pure (List.zip web.2.2 units)) >>= fun xs15 => forO (fun (s3 : (List Int) × (List Int)) (x4 : (Int × Int × Int) × Int) =>
(pure (s3.2, fun b => b)) >>= fun r5 => (pure x4.1.1) >>= fun j6 => idx r5.1 j6 >>= fun x7 => (pure x4.2) >>= fun y8 => setO r5.1 j6 (x7 + y8) >>= fun l9 =>
(pure (s3.1, fun b => b)) >>= fun r10 => (pure x4.1.2.1) >>= fun j11 => idx r10.1 j11 >>= fun x12 => (pure x4.2) >>= fun y13 => setO r10.1 j11 (x12 + y13) >>= fun l14 =>
pure (r10.2 l14, r5.2 l9)) xs15 (incoming, leaving)) >>= fun s16 =>
pure (s16.1, s16.2)
theorem x_node_sums : ∃ g : ((List Int) × (List Int) × (List (Int × Int × Int))) → (List Int) → Out ((List Int) × (List Int)), g = b_node_sums := ⟨_, rfl⟩
def m_node_sums : ((List Int) × (List Int) × (List (Int × Int × Int))) → (List Int) → Out ((List Int) × (List Int)) := Classical.choose x_node_sums
theorem m_node_sums_eq : m_node_sums = b_node_sums := Classical.choose_spec x_node_sums
abbrev P_node_sums : Par (((List Int) × (List Int) × (List (Int × Int × Int))) × (List Int) × Unit) := (pC (tRec "Web" R_Web) (pC (tTup tInt) pN))
abbrev u_node_sums (i : ((List Int) × (List Int) × (List (Int × Int × Int))) × (List Int) × Unit) : Out ((List Int) × (List Int)) := m_node_sums i.1 i.2.1
theorem sc_node_sums : FnScope ["web", "units", "incoming", "leaving", "tail", "head", "_", "number"] ["web", "units"] (defScope s_node_sums) := ⟨rfl, rfl, rfl, by decide +kernel, rfl, by decide +kernel, by decide +kernel⟩
abbrev sp_node_sums (K : PySem.W.Frag) : Sp := Sps P_node_sums u_node_sums (tT2 (tLst tInt) (tLst tInt)) K
theorem ok_node_sums {fd : FuncData} (Z : Fre mg) (F : FunD K "node_sums" "node_sums" (defArgs s_node_sums) (defBody s_node_sums) (defScope s_node_sums) [] [] (He.fAd K ("node_sums", none)) fd) (g : mg "node_sums" = some (.ref (He.fAd K ("node_sums", none)))) (G_Web_node_count : PrD Pr w K mg base 1 "Web" "node_count" ["self"] (sp_Web_node_count K)) (D_Web : ClsF K "Web" ["rooms", "gains", "arcs"])  : Def Pr w K mg base 3 "node_sums" ["web", "units"] [] (sp_node_sums K) := by
  refine ⟨_, fd, [], fn_body F sc_node_sums rfl (by decide) (fun X E B i e1 e2 e3 e4 e5 hW C => ?_), g, F.kp, F.bindsN (fun _ _ _ _ _ _ us hl => match us, hl with | [_, _], _ => rfl), .nil⟩
  subst e1 e2 e3 e4 e5
  obtain ⟨web, units, _⟩ := i
  show WS X E B [iS (tRec "Web" R_Web) web, iS (tTup tInt) units, .any, .any, .any, .any, .any, .any] [_] (m_node_sums web units) _
  rw [m_node_sums_eq]
  unfold b_node_sums
  exact ws_setO C 2 (WO.cast (m' := (noErr (m_Web_node_count web)) >>= fun t1 => repO [0] t1) (wo_rep (WO.rh (wo_lst (wal_cons we_int wal_nil))) (we_prop C D_Web G_Web_node_count (by decide) (we_var C 0))) (by first | (simp only [pure_b, bind_as]; done) | rfl)) (fun incoming =>
ws_setO C 3 (WO.cast (m' := (noErr (m_Web_node_count web)) >>= fun t2 => repO [0] t2) (wo_rep (WO.rh (wo_lst (wal_cons we_int wal_nil))) (we_prop C D_Web G_Web_node_count (by decide) (we_var C 0))) (by first | (simp only [pure_b, bind_as]; done) | rfl)) (fun leaving =>
ws_seq (Δ := (fun (s3 : (List Int) × (List Int)) => [iS (tRec "Web" R_Web) web, iS (tTup tInt) units, .on _ (oLst tInt) s3.1, .on _ (oLst tInt) s3.2, .any, .any, .any, .any])) (w1_for C (WI.cast (m' := pure (List.zip web.2.2 units)) (wi_zipT C Z (we_fld (T := (tTup (tT3 tInt tInt tInt))) (R := R_Web) (g := fun (a : (List Int) × (List Int) × (List (Int × Int × Int))) => a.2.2) D_Web 2 (we_var C 0)) (we_var C 1)) (by first | rfl | simp only [bind_as, pure_b])) (wg_t2 C (wg_t3 C (wg_name C 4) (wg_name C 5) (wg_name C 6)) (wg_name C 7)) (Δ := (fun (s3 : (List Int) × (List Int)) => [iS (tRec "Web" R_Web) web, iS (tTup tInt) units, .on _ (oLst tInt) s3.1, .on _ (oLst tInt) s3.2, .any, .any, .any, .any])) (s0 := (incoming, leaving)) (Weak.same (Weak.same (Weak.same (Weak.same (Weak.same (Weak.same (Weak.same (Weak.same Weak.nil)))))))) (by exact (fun s3 x4 =>
ws_augS 3 (g := fun x y => x + y) ip_add (WL.cast (m' := pure (s3.2, fun b => b)) (wl_var C 3) (by first | rfl | simp only [bind_as, pure_b])) (WE.cast (m' := pure x4.1.1) (we_var C 4) (by first | rfl | simp only [bind_as, pure_b])) (WE.cast (m' := pure x4.2) (we_var C 7) (by first | rfl | simp only [bind_as, pure_b])) (fun r5 l9 =>
ws_augS 2 (g := fun x y => x + y) ip_add (WL.cast (m' := pure (s3.1, fun b => b)) (wl_var C 2) (by first | rfl | simp only [bind_as, pure_b])) (WE.cast (m' := pure x4.1.2.1) (we_var C 5) (by first | rfl | simp only [bind_as, pure_b])) (WE.cast (m' := pure x4.2) (we_var C 7) (by first | rfl | simp only [bind_as, pure_b])) (fun r10 l14 =>
ws_fin rfl (Weak.same (Weak.same (Weak.same (Weak.same (Weak.any (Weak.any (Weak.any (Weak.any Weak.nil))))))))))))) (fun s16 =>
ws_fz 2 (fz_lst _) hW rfl (
ws_fz 3 (fz_lst _) hW rfl (
ws_ret0 (WE.cast (m' := pure (s16.1, s16.2)) (we_t2 (we_var C 2) (we_var C 3)) (by first | rfl | simp only [bind_as, pure_b])) (fun _ => rfl))))))
def b_flow_total (web : (List Int) × (List Int) × (List (Int × Int × Int))) (units : List Int) : Out Int :=
((m_node_sums web units) >>= fun t1 => pure t1.2) >>= fun t2 => idx t2 0
theorem x_flow_total : ∃ g : ((List Int) × (List Int) × (List (Int × Int × Int))) → (List Int) → Out Int, g = b_flow_total := ⟨_, rfl⟩
def m_flow_total : ((List Int) × (List Int) × (List (Int × Int × Int))) → (List Int) → Out Int := Classical.choose x_flow_total
theorem m_flow_total_eq : m_flow_total = b_flow_total := Classical.choose_spec x_flow_total
abbrev P_flow_total : Par (((List Int) × (List Int) × (List (Int × Int × Int))) × (List Int) × Unit) := (pC (tRec "Web" R_Web) (pC (tTup tInt) pN))
abbrev u_flow_total (i : ((List Int) × (List Int) × (List (Int × Int × Int))) × (List Int) × Unit) : Out Int := m_flow_total i.1 i.2.1
theorem sc_flow_total : FnScope ["web", "units"] ["web", "units"] (defScope s_flow_total) := ⟨rfl, rfl, rfl, by decide +kernel, rfl, by decide +kernel, by decide +kernel⟩
abbrev sp_flow_total (K : PySem.W.Frag) : Sp := Sps P_flow_total u_flow_total tInt K
theorem ok_flow_total {fd : FuncData} (Z : Fre mg) (F : FunD K "flow_total" "flow_total" (defArgs s_flow_total) (defBody s_flow_total) (defScope s_flow_total) [] [] (He.fAd K ("flow_total", none)) fd) (g : mg "flow_total" = some (.ref (He.fAd K ("flow_total", none)))) (G_node_sums : Def Pr w K mg base 3 "node_sums" ["web", "units"] [] (sp_node_sums K))  (c_HOME : ∃ t, mg "HOME" = some (.int 0 t)) : Def Pr w K mg base 4 "flow_total" ["web", "units"] [] (sp_flow_total K) := by
  refine ⟨_, fd, [], fn_body F sc_flow_total rfl (by decide) (fun X E B i e1 e2 e3 e4 e5 hW C => ?_), g, F.kp, F.bindsN (fun _ _ _ _ _ _ us hl => match us, hl with | [_, _], _ => rfl), .nil⟩
  subst e1 e2 e3 e4 e5
  obtain ⟨web, units, _⟩ := i
  show WS X E B [iS (tRec "Web" R_Web) web, iS (tTup tInt) units] [_] (m_flow_total web units) _
  rw [m_flow_total_eq]
  unfold b_flow_total
  exact ws_ret0 (WE.cast (m' := ((m_node_sums web units) >>= fun t1 => pure t1.2) >>= fun t2 => idx t2 0) (we_ixL (WE.rd (we_prj pj21 (we_call C G_node_sums (by decide) (wa_cons (R := (tRec "Web" R_Web).rl) (we_var C 0) fun a0 => wa_cons (R := (tTup tInt).rl) (we_var C 1) fun a1 => wa_nil fun K F H s v1 r1 v0 r0 => ⟨(a0, a1, ()), rfl, v0, _, rfl, r0, v1, _, rfl, r1, rfl⟩)))) (we_gint C c_HOME)) (by first | (simp only [pure_b, bind_as]; done) | rfl)) (fun _ => rfl)
def b_flow_fault (web : (List Int) × (List Int) × (List (Int × Int × Int))) (units : List Int) : Out (Option (Str × Int)) :=
((pure (enumL units)) >>= fun xs5 => forR (fun (s1 : Unit) (x2 : Int × Int) =>
(pure (decide (x2.2 < 0))) >>= fun c3 => if c3 = true then (
(pure (some ((Str.ofString "arc"), x2.1))) >>= fun r4 => pure (Step.rt r4))
else (
pure (Step.nx ()))) xs5 ()) >>= fun t31 => (match t31 with
| Step.rt r30 => pure r30
| Step.nx s6 =>
(m_node_sums web units) >>= fun u7 =>
(((noErr (m_Web_node_count web)) >>= fun t8 => range2O 2 t8) >>= fun xs15 => forR (fun (s9 : Unit) (x10 : Int) =>
((idx u7.1 x10) >>= fun t11 => (idx u7.2 x10) >>= fun t12 => pure (!decide (t11 = t12))) >>= fun c13 => if c13 = true then (
(pure (some ((Str.ofString "balance"), x10))) >>= fun r14 => pure (Step.rt r14))
else (
pure (Step.nx ()))) xs15 ()) >>= fun t29 => (match t29 with
| Step.rt r28 => pure r28
| Step.nx s16 =>
(((noErr (m_Web_node_count web)) >>= fun t17 => range2O 2 t17) >>= fun xs24 => forR (fun (s18 : Unit) (x19 : Int) =>
((idx u7.1 x19) >>= fun t20 => (idx web.1 x19) >>= fun t21 => pure (decide (t21 < t20))) >>= fun c22 => if c22 = true then (
(pure (some ((Str.ofString "room"), x19))) >>= fun r23 => pure (Step.rt r23))
else (
pure (Step.nx ()))) xs24 ()) >>= fun t27 => (match t27 with
| Step.rt r26 => pure r26
| Step.nx s25 =>
pure none)))
theorem x_flow_fault : ∃ g : ((List Int) × (List Int) × (List (Int × Int × Int))) → (List Int) → Out (Option (Str × Int)), g = b_flow_fault := ⟨_, rfl⟩
def m_flow_fault : ((List Int) × (List Int) × (List (Int × Int × Int))) → (List Int) → Out (Option (Str × Int)) := Classical.choose x_flow_fault
theorem m_flow_fault_eq : m_flow_fault = b_flow_fault := Classical.choose_spec x_flow_fault
abbrev P_flow_fault : Par (((List Int) × (List Int) × (List (Int × Int × Int))) × (List Int) × Unit) := (pC (tRec "Web" R_Web) (pC (tTup tInt) pN))
abbrev u_flow_fault (i : ((List Int) × (List Int) × (List (Int × Int × Int))) × (List Int) × Unit) : Out (Option (Str × Int)) := m_flow_fault i.1 i.2.1
theorem sc_flow_fault : FnScope ["web", "units", "index", "number", "incoming", "leaving", "node"] ["web", "units"] (defScope s_flow_fault) := ⟨rfl, rfl, rfl, by decide +kernel, rfl, by decide +kernel, by decide +kernel⟩
abbrev sp_flow_fault (K : PySem.W.Frag) : Sp := Sps P_flow_fault u_flow_fault (tOpt (tT2 tStr tInt)) K
theorem ok_flow_fault {fd : FuncData} (Z : Fre mg) (F : FunD K "flow_fault" "flow_fault" (defArgs s_flow_fault) (defBody s_flow_fault) (defScope s_flow_fault) [] [] (He.fAd K ("flow_fault", none)) fd) (g : mg "flow_fault" = some (.ref (He.fAd K ("flow_fault", none)))) (G_node_sums : Def Pr w K mg base 3 "node_sums" ["web", "units"] [] (sp_node_sums K)) (G_Web_node_count : PrD Pr w K mg base 1 "Web" "node_count" ["self"] (sp_Web_node_count K)) (D_Web : ClsF K "Web" ["rooms", "gains", "arcs"])  : Def Pr w K mg base 4 "flow_fault" ["web", "units"] [] (sp_flow_fault K) := by
  refine ⟨_, fd, [], fn_body F sc_flow_fault rfl (by decide) (fun X E B i e1 e2 e3 e4 e5 hW C => ?_), g, F.kp, F.bindsN (fun _ _ _ _ _ _ us hl => match us, hl with | [_, _], _ => rfl), .nil⟩
  subst e1 e2 e3 e4 e5
  obtain ⟨web, units, _⟩ := i
  show WS X E B [iS (tRec "Web" R_Web) web, iS (tTup tInt) units, .any, .any, .any, .any, .any] [_] (m_flow_fault web units) _
  rw [m_flow_fault_eq]
  unfold b_flow_fault
  exact ws_cons (D1 := DR (fun (s1 : Unit) => [iS (tRec "Web" R_Web) web, iS (tTup tInt) units, .any, .any, .any, .any, .any]) (fun b => .rt _ (tOpt (tT2 tStr tInt)) b)) (w1_forR C (WI.cast (m' := pure (enumL units)) (wi_enumT C Z (we_var C 1)) (by first | rfl | simp only [bind_as, pure_b])) (wg_t2 C (wg_name C 2) (wg_name C 3)) (Δ := (fun (s1 : Unit) => [iS (tRec "Web" R_Web) web, iS (tTup tInt) units, .any, .any, .any, .any, .any])) (s0 := ()) (Rt := (fun b => .rt _ (tOpt (tT2 tStr tInt)) b)) (Weak.same (Weak.same (Weak.same (Weak.same (Weak.same (Weak.same (Weak.same Weak.nil))))))) (by exact (fun s1 x2 =>
ws_if (WT.cast (m' := pure (decide (x2.2 < 0))) (wt_lt (we_var C 3) we_int) (by first | rfl | simp only [bind_as, pure_b])) (
ws_ret (g := Step.rt) (WE.cast (m' := pure (some ((Str.ofString "arc"), x2.1))) (WE.some (we_t2 we_str (we_var C 2)) nn_t2) (by first | rfl | simp only [bind_as, pure_b])) (fun _ => rfl)) (
ws_pop (ws_fin rfl (Weak.same (Weak.same (Weak.any (Weak.any (Weak.same (Weak.same (Weak.same Weak.nil))))))))))) (fun r => .inl ⟨_, _, _, rfl⟩)) (fun t31 => match t31 with
| Step.rt r30 => .inr ⟨trivial, r30, rfl, rfl⟩
| Step.nx s6 => .inl ⟨_, rfl, (
ws_asg C (WE.cast (m' := m_node_sums web units) (we_call C G_node_sums (by decide) (wa_cons (R := (tRec "Web" R_Web).rl) (we_var C 0) fun a0 => wa_cons (R := (tTup tInt).rl) (we_var C 1) fun a1 => wa_nil fun K F H s v1 r1 v0 r0 => ⟨(a0, a1, ()), rfl, v0, _, rfl, r0, v1, _, rfl, r1, rfl⟩)) (by first | (simp only [pure_b, bind_as]; done) | rfl)) (wg_t2 C (wg_name C 4) (wg_name C 5)) (fun u7 =>
ws_cons (D1 := DR (fun (s9 : Unit) => [iS (tRec "Web" R_Web) web, iS (tTup tInt) units, .any, .any, iS (tLst tInt) u7.1, iS (tLst tInt) u7.2, .any]) (fun b => .rt _ (tOpt (tT2 tStr tInt)) b)) (w1_forR C (WI.cast (m' := (noErr (m_Web_node_count web)) >>= fun t8 => range2O 2 t8) (wi_range2 C Z we_int (we_prop C D_Web G_Web_node_count (by decide) (we_var C 0))) (by first | (simp only [pure_b, bind_as]; done) | rfl)) (wg_name C 6) (Δ := (fun (s9 : Unit) => [iS (tRec "Web" R_Web) web, iS (tTup tInt) units, .any, .any, iS (tLst tInt) u7.1, iS (tLst tInt) u7.2, .any])) (s0 := ()) (Rt := (fun b => .rt _ (tOpt (tT2 tStr tInt)) b)) (Weak.same (Weak.same (Weak.same (Weak.same (Weak.same (Weak.same (Weak.same Weak.nil))))))) (by exact (fun s9 x10 =>
ws_if (WT.cast (m' := (idx u7.1 x10) >>= fun t11 => (idx u7.2 x10) >>= fun t12 => pure (!decide (t11 = t12))) (wt_ne eqs_int (we_ixL (WE.rd (we_var C 4)) (we_var C 6)) (we_ixL (WE.rd (we_var C 5)) (we_var C 6))) (by first | rfl | simp only [bind_as, pure_b])) (
ws_ret (g := Step.rt) (WE.cast (m' := pure (some ((Str.ofString "balance"), x10))) (WE.some (we_t2 we_str (we_var C 6)) nn_t2) (by first | rfl | simp only [bind_as, pure_b])) (fun _ => rfl)) (
ws_pop (ws_fin rfl (Weak.same (Weak.same (Weak.same (Weak.same (Weak.same (Weak.same (Weak.any Weak.nil))))))))))) (fun r => .inl ⟨_, _, _, rfl⟩)) (fun t29 => match t29 with
| Step.rt r28 => .inr ⟨trivial, r28, rfl, rfl⟩
| Step.nx s16 => .inl ⟨_, rfl, (
ws_cons (D1 := DR (fun (s18 : Unit) => [iS (tRec "Web" R_Web) web, iS (tTup tInt) units, .any, .any, iS (tLst tInt) u7.1, iS (tLst tInt) u7.2, .any]) (fun b => .rt _ (tOpt (tT2 tStr tInt)) b)) (w1_forR C (WI.cast (m' := (noErr (m_Web_node_count web)) >>= fun t17 => range2O 2 t17) (wi_range2 C Z we_int (we_prop C D_Web G_Web_node_count (by decide) (we_var C 0))) (by first | (simp only [pure_b, bind_as]; done) | rfl)) (wg_name C 6) (Δ := (fun (s18 : Unit) => [iS (tRec "Web" R_Web) web, iS (tTup tInt) units, .any, .any, iS (tLst tInt) u7.1, iS (tLst tInt) u7.2, .any])) (s0 := ()) (Rt := (fun b => .rt _ (tOpt (tT2 tStr tInt)) b)) (Weak.same (Weak.same (Weak.same (Weak.same (Weak.same (Weak.same (Weak.same Weak.nil))))))) (by exact (fun s18 x19 =>
ws_if (WT.cast (m' := (idx u7.1 x19) >>= fun t20 => (idx web.1 x19) >>= fun t21 => pure (decide (t21 < t20))) (wt_gt (we_ixL (WE.rd (we_var C 4)) (we_var C 6)) (we_ixT (we_fld (T := (tTup tInt)) (R := R_Web) (g := fun (a : (List Int) × (List Int) × (List (Int × Int × Int))) => a.1) D_Web 0 (we_var C 0)) (we_var C 6))) (by first | rfl | simp only [bind_as, pure_b])) (
ws_ret (g := Step.rt) (WE.cast (m' := pure (some ((Str.ofString "room"), x19))) (WE.some (we_t2 we_str (we_var C 6)) nn_t2) (by first | rfl | simp only [bind_as, pure_b])) (fun _ => rfl)) (
ws_pop (ws_fin rfl (Weak.same (Weak.same (Weak.same (Weak.same (Weak.same (Weak.same (Weak.any Weak.nil))))))))))) (fun r => .inl ⟨_, _, _, rfl⟩)) (fun t27 => match t27 with
| Step.rt r26 => .inr ⟨trivial, r26, rfl, rfl⟩
| Step.nx s25 => .inl ⟨_, rfl, (
ws_ret0 (WE.cast (m' := pure none) we_nonO (by first | rfl | simp only [bind_as, pure_b])) (fun _ => rfl))⟩))⟩)))⟩)
def b_law_walks (row : List Int) : Out (List (List Int)) :=
((idx row 0) >>= fun t1 => idx [3, 4, 5, 6, 8, 2, 10, 1, 0, 38] t1) >>= fun inner =>
(pure ([] : List (List Int))) >>= fun walks =>
((pure (upto 3)) >>= fun xs18 => forO (fun (s2 : (List (List Int))) (x3 : Int) =>
(pure (cut row (some (4 + (10 * x3))) (some (14 + (10 * x3))))) >>= fun part =>
(pure [0]) >>= fun walk =>
((((idx part 0) >>= fun t4 => idx [2, 3, 4, 1, 3, 0] t4) >>= fun t5 => rangeO t5) >>= fun xs14 => forO (fun (s6 : (List Int)) (x7 : Int) =>
((((idx part (2 + (2 * x7))) >>= fun t8 => pure t8) >>= fun t9 => modO t9 (max 1 inner)) >>= fun t10 => pure (2 + t10)) >>= fun node =>
(if (decide (0 < inner)) = true then (idx s6 ((s6.length : Int) - 1)) >>= fun t11 => pure (!decide (node = t11)) else pure false) >>= fun c12 => if c12 = true then (
(pure node) >>= fun a13 => appO s6 a13 >>= fun walk =>
pure walk)
else (
pure s6)) xs14 walk) >>= fun s15 =>
(pure 1) >>= fun a16 => appO s15 a16 >>= fun walk =>
(pure walk) >>= fun a17 => appO s2 a17 >>= fun walks =>
pure walks) xs18 walks) >>= fun s19 =>
((pure (upto 3)) >>= fun xs38 => forO (fun (s20 : (List (List Int))) (x21 : Int) =>
(pure (cut row (some (34 + (10 * x21))) (some (44 + (10 * x21))))) >>= fun part =>
(pure ([] : List Int)) >>= fun ring =>
((((idx part 0) >>= fun t22 => idx [2, 3, 4, 3, 2, 4] t22) >>= fun t23 => rangeO t23) >>= fun xs31 => forO (fun (s24 : (List Int)) (x25 : Int) =>
((((idx part (2 + (2 * x25))) >>= fun t26 => pure t26) >>= fun t27 => modO t27 (max 1 inner)) >>= fun t28 => pure (2 + t28)) >>= fun node =>
(pure (!decide (node ∈ s24))) >>= fun c29 => if c29 = true then (
(pure node) >>= fun a30 => appO s24 a30 >>= fun ring =>
pure ring)
else (
pure s24)) xs31 ring) >>= fun s32 =>
(pure (decide (1 < (s32.length : Int)))) >>= fun c33 => if c33 = true then (
(((idx s32 0) >>= fun t34 => pure [t34]) >>= fun t35 => catO s32 t35) >>= fun a36 => appO s20 a36 >>= fun walks =>
pure walks)
else (
(pure [0, 1]) >>= fun a37 => appO s20 a37 >>= fun walks =>
pure walks)) xs38 s19) >>= fun s39 =>
pure s39
theorem x_law_walks : ∃ g : (List Int) → Out (List (List Int)), g = b_law_walks := ⟨_, rfl⟩
def m_law_walks : (List Int) → Out (List (List Int)) := Classical.choose x_law_walks
theorem m_law_walks_eq : m_law_walks = b_law_walks := Classical.choose_spec x_law_walks
abbrev P_law_walks : Par ((List Int) × Unit) := (pC (tLst tInt) pN)
abbrev u_law_walks (i : (List Int) × Unit) : Out (List (List Int)) := m_law_walks i.1
theorem sc_law_walks : FnScope ["row", "inner", "walks", "j", "part", "walk", "k", "node", "ring"] ["row"] (defScope s_law_walks) := ⟨rfl, rfl, rfl, by decide +kernel, rfl, by decide +kernel, by decide +kernel⟩
abbrev sp_law_walks (K : PySem.W.Frag) : Sp := SpsO P_law_walks u_law_walks (oLst (tLst tInt)) K
theorem ok_law_walks {fd : FuncData} (Z : Fre mg) (F : FunD K "_law_walks" "_law_walks" (defArgs s_law_walks) (defBody s_law_walks) (defScope s_law_walks) [] [] (He.fAd K ("_law_walks", none)) fd) (g : mg "_law_walks" = some (.ref (He.fAd K ("_law_walks", none))))    : Def Pr w K mg base 1 "_law_walks" ["row"] [] (sp_law_walks K) := by
  refine ⟨_, fd, [], fn_bodyO F sc_law_walks rfl (by decide) (fun X E B i e1 e2 e3 e4 e5 hW C => ?_), g, F.kp, F.bindsN (fun _ _ _ _ _ _ us hl => match us, hl with | [_], _ => rfl), .nil⟩
  subst e1 e2 e3 e4 e5
  obtain ⟨row, _⟩ := i
  show WS X E B [iS (tLst tInt) row, .any, .any, .any, .any, .any, .any, .any, .any] [_] (m_law_walks row) _
  rw [m_law_walks_eq]
  unfold b_law_walks
  exact ws_set C 1 (WE.cast (m' := (idx row 0) >>= fun t1 => idx [3, 4, 5, 6, 8, 2, 10, 1, 0, 38] t1) (we_ixL (WO.rd (wo_lst (wal_cons we_int (wal_cons we_int (wal_cons we_int (wal_cons we_int (wal_cons we_int (wal_cons we_int (wal_cons we_int (wal_cons we_int (wal_cons we_int (wal_cons we_int wal_nil)))))))))))) (we_ixL (WE.rd (we_var C 0)) we_int)) (by first | rfl | simp only [bind_as, pure_b])) (fun inner =>
ws_setO C 2 (WO.cast (m' := pure ([] : List (List Int))) (wo_lst (wal_nil (T := (tLst tInt)))) (by first | rfl | simp only [bind_as, pure_b])) (fun walks =>
ws_seq (Δ := (fun (s2 : (List (List Int))) => [iS (tLst tInt) row, iS tInt inner, .on _ (oLst (tLst tInt)) s2, .any, .any, .any, .any, .any, .any])) (w1_for C (WI.cast (m' := pure (upto 3)) (WI.cast (wi_range C Z we_int) rfl) (by first | rfl | simp only [bind_as, pure_b])) (wg_name C 3) (Δ := (fun (s2 : (List (List Int))) => [iS (tLst tInt) row, iS tInt inner, .on _ (oLst (tLst tInt)) s2, .any, .any, .any, .any, .any, .any])) (s0 := walks) (Weak.same (Weak.same (Weak.same (Weak.same (Weak.same (Weak.same (Weak.same (Weak.same (Weak.same Weak.nil))))))))) (by exact (fun s2 x3 =>
ws_set C 4 (WE.cast (m' := pure (cut row (some (4 + (10 * x3))) (some (14 + (10 * x3))))) (WO.fz (wo_cut (WE.rd (we_var C 0)) (wp_is (we_add we_int (we_mulL we_int (we_var C 3)))) (wp_is (we_add we_int (we_mulL we_int (we_var C 3))))) (fz_lst _)) (by first | rfl | simp only [bind_as, pure_b])) (fun part =>
ws_setO C 5 (WO.cast (m' := pure [0]) (wo_lst (wal_cons we_int wal_nil)) (by first | rfl | simp only [bind_as, pure_b])) (fun walk =>
ws_seq (Δ := (fun (s6 : (List Int)) => [iS (tLst tInt) row, iS tInt inner, .on _ (oLst (tLst tInt)) s2, iS tInt x3, iS (tLst tInt) part, .on _ (oLst tInt) s6, .any, .any, .any])) (w1_for C (WI.cast (m' := ((idx part 0) >>= fun t4 => idx [2, 3, 4, 1, 3, 0] t4) >>= fun t5 => rangeO t5) (wi_range C Z (we_ixL (WO.rd (wo_lst (wal_cons we_int (wal_cons we_int (wal_cons we_int (wal_cons we_int (wal_cons we_int (wal_cons we_int wal_nil)))))))) (we_ixL (WE.rd (we_var C 4)) we_int))) (by first | rfl | simp only [bind_as, pure_b])) (wg_name C 6) (Δ := (fun (s6 : (List Int)) => [iS (tLst tInt) row, iS tInt inner, .on _ (oLst (tLst tInt)) s2, iS tInt x3, iS (tLst tInt) part, .on _ (oLst tInt) s6, .any, .any, .any])) (s0 := walk) (Weak.same (Weak.same (Weak.same (Weak.same (Weak.same (Weak.same (Weak.same (Weak.same (Weak.same Weak.nil))))))))) (by exact (fun s6 x7 =>
ws_set C 7 (WE.cast (m' := (((idx part (2 + (2 * x7))) >>= fun t8 => pure t8) >>= fun t9 => modO t9 (max 1 inner)) >>= fun t10 => pure (2 + t10)) (we_add we_int (we_mod (we_intI C Z (we_ixL (WE.rd (we_var C 4)) (we_add we_int (we_mulL we_int (we_var C 6))))) (we_max2 C Z we_int (we_var C 1)))) (by first | rfl | simp only [bind_as, pure_b])) (fun node =>
ws_if (WT.cast (m' := if (decide (0 < inner)) = true then (idx s6 ((s6.length : Int) - 1)) >>= fun t11 => pure (!decide (node = t11)) else pure false) (wt_b (wb_and (wt_gt (we_var C 1) we_int) (wb_and1 (wt_ne eqs_int (we_var C 7) (we_ixL (WE.hr (we_ovar C 5)) (we_sub (we_lenL C Z (WE.hr (we_ovar C 5))) we_int)))))) (by first | rfl | simp only [bind_as, pure_b])) (
ws_app C 5 (WE.cast (m' := pure node) (we_var C 7) (by first | rfl | simp only [bind_as, pure_b])) (fun walk =>
ws_pop (ws_fin rfl (Weak.same (Weak.same (Weak.same (Weak.same (Weak.same (Weak.same (Weak.any (Weak.any (Weak.same Weak.nil)))))))))))) (
ws_pop (ws_fin rfl (Weak.same (Weak.same (Weak.same (Weak.same (Weak.same (Weak.same (Weak.any (Weak.any (Weak.same Weak.nil))))))))))))))) (fun s15 =>
ws_app C 5 (WE.cast (m' := pure 1) we_int (by first | rfl | simp only [bind_as, pure_b])) (fun walk =>
ws_fz 5 (fz_lst _) hW rfl (
ws_app C 2 (WE.cast (m' := pure walk) (we_var C 5) (by first | rfl | simp only [bind_as, pure_b])) (fun walks =>
ws_fin rfl (Weak.same (Weak.same (Weak.same (Weak.any (Weak.any (Weak.any (Weak.same (Weak.same (Weak.same Weak.nil)))))))))))))))))) (fun s19 =>
ws_seq (Δ := (fun (s20 : (List (List Int))) => [iS (tLst tInt) row, iS tInt inner, .on _ (oLst (tLst tInt)) s20, .any, .any, .any, .any, .any, .any])) (w1_for C (WI.cast (m' := pure (upto 3)) (WI.cast (wi_range C Z we_int) rfl) (by first | rfl | simp only [bind_as, pure_b])) (wg_name C 3) (Δ := (fun (s20 : (List (List Int))) => [iS (tLst tInt) row, iS tInt inner, .on _ (oLst (tLst tInt)) s20, .any, .any, .any, .any, .any, .any])) (s0 := s19) (Weak.same (Weak.same (Weak.same (Weak.same (Weak.same (Weak.same (Weak.same (Weak.same (Weak.same Weak.nil))))))))) (by exact (fun s20 x21 =>
ws_set C 4 (WE.cast (m' := pure (cut row (some (34 + (10 * x21))) (some (44 + (10 * x21))))) (WO.fz (wo_cut (WE.rd (we_var C 0)) (wp_is (we_add we_int (we_mulL we_int (we_var C 3)))) (wp_is (we_add we_int (we_mulL we_int (we_var C 3))))) (fz_lst _)) (by first | rfl | simp only [bind_as, pure_b])) (fun part =>
ws_setO C 8 (WO.cast (m' := pure ([] : List Int)) (wo_lst (wal_nil (T := tInt))) (by first | rfl | simp only [bind_as, pure_b])) (fun ring =>
ws_seq (Δ := (fun (s24 : (List Int)) => [iS (tLst tInt) row, iS tInt inner, .on _ (oLst (tLst tInt)) s20, iS tInt x21, iS (tLst tInt) part, .any, .any, .any, .on _ (oLst tInt) s24])) (w1_for C (WI.cast (m' := ((idx part 0) >>= fun t22 => idx [2, 3, 4, 3, 2, 4] t22) >>= fun t23 => rangeO t23) (wi_range C Z (we_ixL (WO.rd (wo_lst (wal_cons we_int (wal_cons we_int (wal_cons we_int (wal_cons we_int (wal_cons we_int (wal_cons we_int wal_nil)))))))) (we_ixL (WE.rd (we_var C 4)) we_int))) (by first | rfl | simp only [bind_as, pure_b])) (wg_name C 6) (Δ := (fun (s24 : (List Int)) => [iS (tLst tInt) row, iS tInt inner, .on _ (oLst (tLst tInt)) s20, iS tInt x21, iS (tLst tInt) part, .any, .any, .any, .on _ (oLst tInt) s24])) (s0 := ring) (Weak.same (Weak.same (Weak.same (Weak.same (Weak.same (Weak.same (Weak.same (Weak.same (Weak.same Weak.nil))))))))) (by exact (fun s24 x25 =>
ws_set C 7 (WE.cast (m' := (((idx part (2 + (2 * x25))) >>= fun t26 => pure t26) >>= fun t27 => modO t27 (max 1 inner)) >>= fun t28 => pure (2 + t28)) (we_add we_int (we_mod (we_intI C Z (we_ixL (WE.rd (we_var C 4)) (we_add we_int (we_mulL we_int (we_var C 6))))) (we_max2 C Z we_int (we_var C 1)))) (by first | rfl | simp only [bind_as, pure_b])) (fun node =>
ws_if (WT.cast (m' := pure (!decide (node ∈ s24))) (wt_niL eqf_int (we_var C 7) (WE.hr (we_ovar C 8))) (by first | rfl | simp only [bind_as, pure_b])) (
ws_app C 8 (WE.cast (m' := pure node) (we_var C 7) (by first | rfl | simp only [bind_as, pure_b])) (fun ring =>
ws_pop (ws_fin rfl (Weak.same (Weak.same (Weak.same (Weak.same (Weak.same (Weak.same (Weak.any (Weak.any (Weak.same Weak.nil)))))))))))) (
ws_pop (ws_fin rfl (Weak.same (Weak.same (Weak.same (Weak.same (Weak.same (Weak.same (Weak.any (Weak.any (Weak.same Weak.nil))))))))))))))) (fun s32 =>
ws_if (WT.cast (m' := pure (decide (1 < (s32.length : Int)))) (wt_gt (we_lenL C Z (WE.hr (we_ovar C 8))) we_int) (by first | rfl | simp only [bind_as, pure_b])) (
ws_app C 2 (WE.cast (m' := ((idx s32 0) >>= fun t34 => pure [t34]) >>= fun t35 => catO s32 t35) (WO.fz (wo_cat (we_ovar C 8) (WO.rh (wo_lst (wal_cons (WE.cast (m' := idx s32 0) (we_ixL (WE.hr (we_ovar C 8)) we_int) (by first | rfl | simp only [bind_as, pure_b])) wal_nil)))) (fz_lst _)) (by first | rfl | simp only [bind_as, pure_b])) (fun walks =>
ws_pop (ws_fin rfl (Weak.same (Weak.same (Weak.same (Weak.any (Weak.any (Weak.same (Weak.same (Weak.same (Weak.any Weak.nil)))))))))))) (
ws_app C 2 (WE.cast (m' := pure [0, 1]) (WO.fz (wo_lst (wal_cons we_int (wal_cons we_int wal_nil))) (fz_lst _)) (by first | rfl | simp only [bind_as, pure_b])) (fun walks =>
ws_pop (ws_fin rfl (Weak.same (Weak.same (Weak.same (Weak.any (Weak.any (Weak.same (Weak.same (Weak.same (Weak.any Weak.nil)))))))))))))))))) (fun s39 =>
ws_retV C 2 hW rfl))))
def b_law_arc_at (arcs : List (List Int)) (tail : Int) (head : Int) : Out Int :=
((pure (upto arcs.length)) >>= fun xs6 => forR (fun (s1 : Unit) (x2 : Int) =>
((idx arcs x2) >>= fun t3 => pure (decide (t3 = [tail, head]))) >>= fun c4 => if c4 = true then (
(pure x2) >>= fun r5 => pure (Step.rt r5))
else (
pure (Step.nx ()))) xs6 ()) >>= fun t9 => (match t9 with
| Step.rt r8 => pure r8
| Step.nx s7 =>
pure (-1))
theorem x_law_arc_at : ∃ g : (List (List Int)) → Int → Int → Out Int, g = b_law_arc_at := ⟨_, rfl⟩
def m_law_arc_at : (List (List Int)) → Int → Int → Out Int := Classical.choose x_law_arc_at
theorem m_law_arc_at_eq : m_law_arc_at = b_law_arc_at := Classical.choose_spec x_law_arc_at
abbrev P_law_arc_at : ParG ((List (List Int)) × Int × Int × Unit) (Unit) := (gB (oLst (tLst tInt)) (gI tInt (gI tInt gN)))
abbrev u_law_arc_at (i : (List (List Int)) × Int × Int × Unit) : Out Int := m_law_arc_at i.1 i.2.1 i.2.2.1
theorem sc_law_arc_at : FnScope ["arcs", "tail", "head", "k"] ["arcs", "tail", "head"] (defScope s_law_arc_at) := ⟨rfl, rfl, rfl, by decide +kernel, rfl, by decide +kernel, by decide +kernel⟩
abbrev sp_law_arc_at (K : PySem.W.Frag) : Sp := SpsB P_law_arc_at u_law_arc_at tInt K
theorem ok_law_arc_at {fd : FuncData} (Z : Fre mg) (F : FunD K "_law_arc_at" "_law_arc_at" (defArgs s_law_arc_at) (defBody s_law_arc_at) (defScope s_law_arc_at) [] [] (He.fAd K ("_law_arc_at", none)) fd) (g : mg "_law_arc_at" = some (.ref (He.fAd K ("_law_arc_at", none))))    : Def Pr w K mg base 1 "_law_arc_at" ["arcs", "tail", "head"] [] (sp_law_arc_at K) := by
  refine ⟨_, fd, [], fn_bodyB F sc_law_arc_at rfl (by decide) (fun X E B vs i e1 e2 e3 e4 e5 hW C hl => ?_), g, F.kp, F.bindsN (fun _ _ _ _ _ _ us hl => match us, hl with | [_, _, _], _ => rfl), .nil⟩
  subst e1 e2 e3 e4 e5
  obtain ⟨arcs, tail, head, _⟩ := i
  match vs, hl with
  | [v0, v1, v2], _ =>
  show WS X E B [iS (tBor B (oLst (tLst tInt))) arcs, iS tInt tail, iS tInt head, .any] [_] (m_law_arc_at arcs tail head) _
  rw [m_law_arc_at_eq]
  unfold b_law_arc_at
  exact ws_cons (D1 := DR (fun (s1 : Unit) => [iS (tBor B (oLst (tLst tInt))) arcs, iS tInt tail, iS tInt head, .any]) (fun b => .rt _ tInt b)) (w1_forR C (WI.cast (m' := pure (upto arcs.length)) (wi_rlen C Z rl_len (WE.hr (WE.vl (we_bor C 0)))) (by first | rfl | simp only [bind_as, pure_b])) (wg_name C 3) (Δ := (fun (s1 : Unit) => [iS (tBor B (oLst (tLst tInt))) arcs, iS tInt tail, iS tInt head, .any])) (s0 := ()) (Rt := (fun b => .rt _ tInt b)) (Weak.same (Weak.same (Weak.same (Weak.same Weak.nil)))) (by exact (fun s1 x2 =>
ws_if (WT.cast (m' := (idx arcs x2) >>= fun t3 => pure (decide (t3 = [tail, head]))) (wt_eqD C (cLst cInt) (dp_lst dp_int).r (dp_rl dp_int) (we_ixL (WE.hr (WE.vl (we_bor C 0))) (we_var C 3)) (WO.rd (wo_lst (wal_cons (we_var C 1) (wal_cons (we_var C 2) wal_nil))))) (by first | rfl | simp only [bind_as, pure_b])) (
ws_ret (g := Step.rt) (WE.cast (m' := pure x2) (we_var C 3) (by first | rfl | simp only [bind_as, pure_b])) (fun _ => rfl)) (
ws_pop (ws_fin rfl (Weak.same (Weak.same (Weak.same (Weak.any Weak.nil)))))))) (fun r => .inl ⟨_, _, _, rfl⟩)) (fun t9 => match t9 with
| Step.rt r8 => .inr ⟨trivial, r8, rfl, rfl⟩
| Step.nx s7 => .inl ⟨_, rfl, (
ws_ret0 (WE.cast (m' := pure (-1)) (we_neg we_int) (by first | rfl | simp only [bind_as, pure_b])) (fun _ => rfl))⟩)
def b_law_lay (row : List Int) (walks : List (List Int)) : Out (Int × (List (List Int)) × (List (List Int))) :=
((idx row 0) >>= fun t1 => idx [3, 4, 5, 6, 8, 2, 10, 1, 0, 38] t1) >>= fun inner =>
(pure ([] : List (List Int))) >>= fun arcs =>
(pure ([] : List (List Int))) >>= fun paths =>
((pure (upto walks.length)) >>= fun xs25 => forO (fun (s2 : (List (List Int)) × (List (List Int))) (x3 : Int) =>
(pure ([] : List Int)) >>= fun path =>
(((((idx walks x3) >>= fun t4 => pure (t4.length : Int)) >>= fun t5 => pure (t5 - 1)) >>= fun t6 => rangeO t6) >>= fun xs22 => forO (fun (s7 : (List (List Int)) × (List Int)) (x8 : Int) =>
(((idx walks x3) >>= fun t9 => idx t9 x8) >>= fun t11 => ((idx walks x3) >>= fun t10 => idx t10 (x8 + 1)) >>= fun t12 => m_law_arc_at s7.1 t11 t12) >>= fun at_ =>
((if (decide (at_ < 0)) = true then pure true else (idx row ((7 + (10 * x3)) + (2 * (x8 % 4)))) >>= fun t13 => pure (decide (t13 = 0))) >>= fun c14 => if c14 = true then (
(pure (s7.1.length : Int)) >>= fun at_ =>
(((idx walks x3) >>= fun t16 => idx t16 x8) >>= fun t18 => ((idx walks x3) >>= fun t17 => idx t17 (x8 + 1)) >>= fun t19 => pure [t18, t19]) >>= fun a20 => appO s7.1 a20 >>= fun arcs =>
pure (at_, arcs))
else (
pure (at_, s7.1))) >>= fun s15 =>
(pure s15.1) >>= fun a21 => appO s7.2 a21 >>= fun path =>
pure (s15.2, path)) xs22 (s2.1, path)) >>= fun s23 =>
(pure s23.2) >>= fun a24 => appO s2.2 a24 >>= fun paths =>
pure (s23.1, paths)) xs25 (arcs, paths)) >>= fun s26 =>
((pure (upto 8)) >>= fun xs35 => forO (fun (s27 : (List (List Int))) (x28 : Int) =>
(((idx row (64 + (2 * x28))) >>= fun t29 => pure t29) >>= fun t30 => modO t30 (inner + 1)) >>= fun tail =>
(((idx row (65 + (2 * x28))) >>= fun t31 => pure t31) >>= fun t32 => modO t32 (inner + 1)) >>= fun head =>
(if (!decide (tail = head)) = true then pure true else pure (decide (tail = 0))) >>= fun c33 => if c33 = true then (
(pure [tail + (if decide (0 < tail) = true then 1 else 0), head + 1]) >>= fun a34 => appO s27 a34 >>= fun arcs =>
pure arcs)
else (
pure s27)) xs35 s26.1) >>= fun s36 =>
(pure (s36.length : Int)) >>= fun count =>
(((idx row 1) >>= fun t37 => pure t37) >>= fun t38 => modO t38 count) >>= fun turn =>
((pure (upto s26.2.length)) >>= fun xs46 => forO (fun (s39 : (List (List Int))) (x40 : Int) =>
((idx s39 x40) >>= fun t42 => mapO (fun at_41 => modO (at_41 + turn) count) t42) >>= fun a44 => (pure x40) >>= fun j45 => setO s39 j45 a44 >>= fun paths =>
pure paths) xs46 s26.2) >>= fun s47 =>
(catO (cut s36 (some (count - turn)) none) (cut s36 none (some (count - turn)))) >>= fun t48 => pure (2 + inner, t48, s47)
theorem x_law_lay : ∃ g : (List Int) → (List (List Int)) → Out (Int × (List (List Int)) × (List (List Int))), g = b_law_lay := ⟨_, rfl⟩
def m_law_lay : (List Int) → (List (List Int)) → Out (Int × (List (List Int)) × (List (List Int))) := Classical.choose x_law_lay
theorem m_law_lay_eq : m_law_lay = b_law_lay := Classical.choose_spec x_law_lay
abbrev P_law_lay : Par ((List Int) × (List (List Int)) × Unit) := (pC (tLst tInt) (pC (tLst (tLst tInt)) pN))
abbrev u_law_lay (i : (List Int) × (List (List Int)) × Unit) : Out (Int × (List (List Int)) × (List (List Int))) := m_law_lay i.1 i.2.1
theorem sc_law_lay : FnScope ["row", "walks", "inner", "arcs", "paths", "j", "path", "k", "at", "tail", "head", "count", "turn"] ["row", "walks"] (defScope s_law_lay) := ⟨rfl, rfl, rfl, by decide +kernel, rfl, by decide +kernel, by decide +kernel⟩
abbrev sp_law_lay (K : PySem.W.Frag) : Sp := Sps P_law_lay u_law_lay (tL3 tInt (tLst (tLst tInt)) (tLst (tLst tInt))) K
theorem ok_law_lay {fd : FuncData} (Z : Fre mg) (F : FunD K "_law_lay" "_law_lay" (defArgs s_law_lay) (defBody s_law_lay) (defScope s_law_lay) [] [] (He.fAd K ("_law_lay", none)) fd) (g : mg "_law_lay" = some (.ref (He.fAd K ("_law_lay", none)))) (G_law_arc_at : Def Pr w K mg base 1 "_law_arc_at" ["arcs", "tail", "head"] [] (sp_law_arc_at K))   : Def Pr w K mg base 2 "_law_lay" ["row", "walks"] [] (sp_law_lay K) := by
  refine ⟨_, fd, [], fn_body F sc_law_lay rfl (by decide) (fun X E B i e1 e2 e3 e4 e5 hW C => ?_), g, F.kp, F.bindsN (fun _ _ _ _ _ _ us hl => match us, hl with | [_, _], _ => rfl), .nil⟩
  subst e1 e2 e3 e4 e5
  obtain ⟨row, walks, _⟩ := i
  show WS X E B [iS (tLst tInt) row, iS (tLst (tLst tInt)) walks, .any, .any, .any, .any, .any, .any, .any, .any, .any, .any, .any] [_] (m_law_lay row walks) _
  rw [m_law_lay_eq]
  unfold b_law_lay
  exact ws_set C 2 (WE.cast (m' := (idx row 0) >>= fun t1 => idx [3, 4, 5, 6, 8, 2, 10, 1, 0, 38] t1) (we_ixL (WO.rd (wo_lst (wal_cons we_int (wal_cons we_int (wal_cons we_int (wal_cons we_int (wal_cons we_int (wal_cons we_int (wal_cons we_int (wal_cons we_int (wal_cons we_int (wal_cons we_int wal_nil)))))))))))) (we_ixL (WE.rd (we_var C 0)) we_int)) (by first | rfl | simp only [bind_as, pure_b])) (fun inner =>
ws_setO C 3 (WO.cast (m' := pure ([] : List (List Int))) (wo_lst (wal_nil (T := (tLst tInt)))) (by first | rfl | simp only [bind_as, pure_b])) (fun arcs =>
ws_setO C 4 (WO.cast (m' := pure ([] : List (List Int))) (wo_lst (wal_nil (T := (tLst tInt)))) (by first | rfl | simp only [bind_as, pure_b])) (fun paths =>
ws_seq (Δ := (fun (s2 : (List (List Int)) × (List (List Int))) => [iS (tLst tInt) row, iS (tLst (tLst tInt)) walks, iS tInt inner, .on _ (oLst (tLst tInt)) s2.1, .on _ (oLst (tLst tInt)) s2.2, .any, .any, .any, .any, .any, .any, .any, .any])) (w1_for C (WI.cast (m' := pure (upto walks.length)) (wi_rlen C Z rl_len (WE.rd (we_var C 1))) (by first | rfl | simp only [bind_as, pure_b])) (wg_name C 5) (Δ := (fun (s2 : (List (List Int)) × (List (List Int))) => [iS (tLst tInt) row, iS (tLst (tLst tInt)) walks, iS tInt inner, .on _ (oLst (tLst tInt)) s2.1, .on _ (oLst (tLst tInt)) s2.2, .any, .any, .any, .any, .any, .any, .any, .any])) (s0 := (arcs, paths)) (Weak.same (Weak.same (Weak.same (Weak.same (Weak.same (Weak.same (Weak.same (Weak.same (Weak.same (Weak.same (Weak.same (Weak.same (Weak.same Weak.nil))))))))))))) (by exact (fun s2 x3 =>
ws_setO C 6 (WO.cast (m' := pure ([] : List Int)) (wo_lst (wal_nil (T := tInt))) (by first | rfl | simp only [bind_as, pure_b])) (fun path =>
ws_seq (Δ := (fun (s7 : (List (List Int)) × (List Int)) => [iS (tLst tInt) row, iS (tLst (tLst tInt)) walks, iS tInt inner, .on _ (oLst (tLst tInt)) s7.1, .on _ (oLst (tLst tInt)) s2.2, iS tInt x3, .on _ (oLst tInt) s7.2, .any, .any, .any, .any, .any, .any])) (w1_for C (WI.cast (m' := (((idx walks x3) >>= fun t4 => pure (t4.length : Int)) >>= fun t5 => pure (t5 - 1)) >>= fun t6 => rangeO t6) (wi_range C Z (we_sub (we_lenL C Z (WE.rd (we_ixL (WE.rd (we_var C 1)) (we_var C 5)))) we_int)) (by first | rfl | simp only [bind_as, pure_b])) (wg_name C 7) (Δ := (fun (s7 : (List (List Int)) × (List Int)) => [iS (tLst tInt) row, iS (tLst (tLst tInt)) walks, iS tInt inner, .on _ (oLst (tLst tInt)) s7.1, .on _ (oLst (tLst tInt)) s2.2, iS tInt x3, .on _ (oLst tInt) s7.2, .any, .any, .any, .any, .any, .any])) (s0 := (s2.1, path)) (Weak.same (Weak.same (Weak.same (Weak.same (Weak.same (Weak.same (Weak.same (Weak.same (Weak.same (Weak.same (Weak.same (Weak.same (Weak.same Weak.nil))))))))))))) (by exact (fun s7 x8 =>
ws_set C 8 (WE.cast (m' := ((idx walks x3) >>= fun t9 => idx t9 x8) >>= fun t11 => ((idx walks x3) >>= fun t10 => idx t10 (x8 + 1)) >>= fun t12 => m_law_arc_at s7.1 t11 t12) (we_callB C G_law_arc_at (by decide) (was_io C 3 (was_cons (R := tInt.rl) (WE.cast (m' := (idx walks x3) >>= fun t9 => idx t9 x8) (we_ixL (WE.rd (we_ixL (WE.rd (we_var C 1)) (we_var C 5))) (we_var C 7)) (by first | rfl | simp only [bind_as, pure_b])) fun a1 => was_cons (R := tInt.rl) (WE.cast (m' := (idx walks x3) >>= fun t10 => idx t10 (x8 + 1)) (we_ixL (WE.rd (we_ixL (WE.rd (we_var C 1)) (we_var C 5))) (we_add (we_var C 7) we_int)) (by first | rfl | simp only [bind_as, pure_b])) fun a2 => was_nil fun σ ω F H en v2 r2 v1 r1 v0 r0 => ⟨(s7.1, a1, a2, ()), rfl, v0, _, rfl, (bo_no (bo_own (is := []) en 3 r0)), v1, _, rfl, r1, v2, _, rfl, r2, rfl⟩))) (by first | (simp only [pure_b, bind_as]; done) | rfl)) (fun at_ =>
ws_seq (Δ := (fun (s15 : Int × (List (List Int))) => [iS (tLst tInt) row, iS (tLst (tLst tInt)) walks, iS tInt inner, .on _ (oLst (tLst tInt)) s15.2, .on _ (oLst (tLst tInt)) s2.2, iS tInt x3, .on _ (oLst tInt) s7.2, iS tInt x8, iS tInt s15.1, .any, .any, .any, .any])) (w1_if (WT.cast (m' := if (decide (at_ < 0)) = true then pure true else (idx row ((7 + (10 * x3)) + (2 * (x8 % 4)))) >>= fun t13 => pure (decide (t13 = 0))) (wt_b (wb_or (wt_lt (we_var C 8) we_int) (wb_or1 (wt_eq eqs_int (we_ixL (WE.rd (we_var C 0)) (we_add (we_add we_int (we_mulL we_int (we_var C 5))) (we_mulL we_int (we_modR (we_var C 7) we_int)))) we_int)))) (by first | rfl | simp only [bind_as, pure_b])) (
ws_set C 8 (WE.cast (m' := pure (s7.1.length : Int)) (we_lenL C Z (WE.hr (we_ovar C 3))) (by first | rfl | simp only [bind_as, pure_b])) (fun at_ =>
ws_app C 3 (WE.cast (m' := ((idx walks x3) >>= fun t16 => idx t16 x8) >>= fun t18 => ((idx walks x3) >>= fun t17 => idx t17 (x8 + 1)) >>= fun t19 => pure [t18, t19]) (WO.fz (wo_lst (wal_cons (WE.cast (m' := (idx walks x3) >>= fun t16 => idx t16 x8) (we_ixL (WE.rd (we_ixL (WE.rd (we_var C 1)) (we_var C 5))) (we_var C 7)) (by first | rfl | simp only [bind_as, pure_b])) (wal_cons (WE.cast (m' := (idx walks x3) >>= fun t17 => idx t17 (x8 + 1)) (we_ixL (WE.rd (we_ixL (WE.rd (we_var C 1)) (we_var C 5))) (we_add (we_var C 7) we_int)) (by first | rfl | simp only [bind_as, pure_b])) wal_nil))) (fz_lst _)) (by first | rfl | simp only [bind_as, pure_b])) (fun arcs =>
ws_fin rfl (Weak.same (Weak.same (Weak.same (Weak.same (Weak.same (Weak.same (Weak.same (Weak.same (Weak.same (Weak.same (Weak.same (Weak.same (Weak.same Weak.nil)))))))))))))))) (
ws_fin rfl (Weak.same (Weak.same (Weak.same (Weak.same (Weak.same (Weak.same (Weak.same (Weak.same (Weak.same (Weak.same (Weak.same (Weak.same (Weak.same Weak.nil))))))))))))))) (fun s15 =>
ws_app C 6 (WE.cast (m' := pure s15.1) (we_var C 8) (by first | rfl | simp only [bind_as, pure_b])) (fun path =>
ws_fin rfl (Weak.same (Weak.same (Weak.same (Weak.same (Weak.same (Weak.same (Weak.same (Weak.any (Weak.any (Weak.same (Weak.same (Weak.same (Weak.same Weak.nil))))))))))))))))))) (fun s23 =>
ws_fz 6 (fz_lst _) hW rfl (
ws_app C 4 (WE.cast (m' := pure s23.2) (we_var C 6) (by first | rfl | simp only [bind_as, pure_b])) (fun paths =>
ws_fin rfl (Weak.same (Weak.same (Weak.same (Weak.same (Weak.same (Weak.any (Weak.any (Weak.same (Weak.same (Weak.same (Weak.same (Weak.same (Weak.same Weak.nil)))))))))))))))))))) (fun s26 =>
ws_seq (Δ := (fun (s27 : (List (List Int))) => [iS (tLst tInt) row, iS (tLst (tLst tInt)) walks, iS tInt inner, .on _ (oLst (tLst tInt)) s27, .on _ (oLst (tLst tInt)) s26.2, .any, .any, .any, .any, .any, .any, .any, .any])) (w1_for C (WI.cast (m' := pure (upto 8)) (WI.cast (wi_range C Z we_int) rfl) (by first | rfl | simp only [bind_as, pure_b])) (wg_name C 7) (Δ := (fun (s27 : (List (List Int))) => [iS (tLst tInt) row, iS (tLst (tLst tInt)) walks, iS tInt inner, .on _ (oLst (tLst tInt)) s27, .on _ (oLst (tLst tInt)) s26.2, .any, .any, .any, .any, .any, .any, .any, .any])) (s0 := s26.1) (Weak.same (Weak.same (Weak.same (Weak.same (Weak.same (Weak.same (Weak.same (Weak.same (Weak.same (Weak.same (Weak.same (Weak.same (Weak.same Weak.nil))))))))))))) (by exact (fun s27 x28 =>
ws_set C 9 (WE.cast (m' := ((idx row (64 + (2 * x28))) >>= fun t29 => pure t29) >>= fun t30 => modO t30 (inner + 1)) (we_mod (we_intI C Z (we_ixL (WE.rd (we_var C 0)) (we_add we_int (we_mulL we_int (we_var C 7))))) (we_add (we_var C 2) we_int)) (by first | rfl | simp only [bind_as, pure_b])) (fun tail =>
ws_set C 10 (WE.cast (m' := ((idx row (65 + (2 * x28))) >>= fun t31 => pure t31) >>= fun t32 => modO t32 (inner + 1)) (we_mod (we_intI C Z (we_ixL (WE.rd (we_var C 0)) (we_add we_int (we_mulL we_int (we_var C 7))))) (we_add (we_var C 2) we_int)) (by first | rfl | simp only [bind_as, pure_b])) (fun head =>
ws_if (WT.cast (m' := if (!decide (tail = head)) = true then pure true else pure (decide (tail = 0))) (wt_b (wb_or (wt_ne eqs_int (we_var C 9) (we_var C 10)) (wb_or1 (wt_eq eqs_int (we_var C 9) we_int)))) (by first | rfl | simp only [bind_as, pure_b])) (
ws_app C 3 (WE.cast (m' := pure [tail + (if decide (0 < tail) = true then 1 else 0), head + 1]) (WO.fz (wo_lst (wal_cons (we_add (we_var C 9) (we_intB C Z (we_gt (we_var C 9) we_int))) (wal_cons (we_add (we_var C 10) we_int) wal_nil))) (fz_lst _)) (by first | rfl | simp only [bind_as, pure_b])) (fun arcs =>
ws_pop (ws_fin rfl (Weak.same (Weak.same (Weak.same (Weak.same (Weak.same (Weak.same (Weak.same (Weak.any (Weak.same (Weak.any (Weak.any (Weak.same (Weak.same Weak.nil)))))))))))))))) (
ws_pop (ws_fin rfl (Weak.same (Weak.same (Weak.same (Weak.same (Weak.same (Weak.same (Weak.same (Weak.any (Weak.same (Weak.any (Weak.any (Weak.same (Weak.same Weak.nil)))))))))))))))))))) (fun s36 =>
ws_set C 11 (WE.cast (m' := pure (s36.length : Int)) (we_lenL C Z (WE.hr (we_ovar C 3))) (by first | rfl | simp only [bind_as, pure_b])) (fun count =>
ws_set C 12 (WE.cast (m' := ((idx row 1) >>= fun t37 => pure t37) >>= fun t38 => modO t38 count) (we_mod (we_intI C Z (we_ixL (WE.rd (we_var C 0)) we_int)) (we_var C 11)) (by first | rfl | simp only [bind_as, pure_b])) (fun turn =>
ws_seq (Δ := (fun (s39 : (List (List Int))) => [iS (tLst tInt) row, iS (tLst (tLst tInt)) walks, iS tInt inner, .on _ (oLst (tLst tInt)) s36, .on _ (oLst (tLst tInt)) s39, .any, .any, .any, .any, .any, .any, iS tInt count, iS tInt turn])) (w1_for C (WI.cast (m' := pure (upto s26.2.length)) (wi_rlen C Z rl_len (WE.hr (we_ovar C 4))) (by first | rfl | simp only [bind_as, pure_b])) (wg_name C 5) (Δ := (fun (s39 : (List (List Int))) => [iS (tLst tInt) row, iS (tLst (tLst tInt)) walks, iS tInt inner, .on _ (oLst (tLst tInt)) s36, .on _ (oLst (tLst tInt)) s39, .any, .any, .any, .any, .any, .any, iS tInt count, iS tInt turn])) (s0 := s26.2) (Weak.same (Weak.same (Weak.same (Weak.same (Weak.same (Weak.same (Weak.same (Weak.same (Weak.same (Weak.same (Weak.same (Weak.same (Weak.same Weak.nil))))))))))))) (by exact (fun s39 x40 =>
ws_setI C 4 (WE.cast (m' := (idx s39 x40) >>= fun t42 => mapO (fun at_41 => modO (at_41 + turn) count) t42) (WO.fz (wo_lc C [("at", 8)] (by decide +kernel) (WIg.s (WI.cast (m' := idx s39 x40) (wi_lst (we_ixL (WE.hr (we_ovar C 4)) (we_var C 5))) (by first | rfl | simp only [bind_as, pure_b]))) (ix := [8]) (by decide) (fun s_ H_ Cc_ cl_ fp_ C => (wg_name C 8)) (fun s_ H_ Cc_ cl_ fp_ at_41 C => WE.cast (m' := modO (at_41 + turn) count) (we_mod (we_intI C Z (we_add (we_var C 8) (we_var C 12))) (we_var C 11)) (by first | rfl | simp only [bind_as, pure_b]))) (fz_lst _)) (by first | rfl | simp only [bind_as, pure_b])) (WE.cast (m' := pure x40) (we_var C 5) (by first | rfl | simp only [bind_as, pure_b])) (fun paths =>
ws_fin rfl (Weak.same (Weak.same (Weak.same (Weak.same (Weak.same (Weak.any (Weak.same (Weak.same (Weak.same (Weak.same (Weak.same (Weak.same (Weak.same Weak.nil))))))))))))))))) (fun s47 =>
ws_fz 4 (fz_lst _) hW rfl (
ws_ret0 (WE.cast (m' := (catO (cut s36 (some (count - turn)) none) (cut s36 none (some (count - turn)))) >>= fun t48 => pure (2 + inner, t48, s47)) (we_l3 (we_add we_int (we_var C 2)) (WO.fz (wo_cat (WO.rh (wo_cut (WE.hr (we_ovar C 3)) (wp_is (we_sub (we_var C 11) (we_var C 12))) wp_no)) (WO.rh (wo_cut (WE.hr (we_ovar C 3)) wp_no (wp_is (we_sub (we_var C 11) (we_var C 12)))))) (fz_lst _)) (we_var C 4)) (by first | rfl | simp only [bind_as, pure_b])) (fun _ => rfl))))))))))
def b_law_sums (count : Int) (arcs : List (List Int)) (units : List Int) : Out ((List Int) × (List Int)) :=
((rangeO count) >>= fun xs3 => mapO (fun k1 => pure 0) xs3) >>= fun incoming =>
((rangeO count) >>= fun xs6 => mapO (fun k4 => pure 0) xs6) >>= fun leaving =>
((pure (upto arcs.length)) >>= fun xs23 => forO (fun (s7 : (List Int) × (List Int)) (x8 : Int) =>
((((idx arcs x8) >>= fun t9 => idx t9 1) >>= fun t10 => idx s7.1 t10) >>= fun t11 => (idx units x8) >>= fun t12 => pure (t11 + t12)) >>= fun a14 => ((idx arcs x8) >>= fun t13 => idx t13 1) >>= fun j15 => setO s7.1 j15 a14 >>= fun incoming =>
((((idx arcs x8) >>= fun t16 => idx t16 0) >>= fun t17 => idx s7.2 t17) >>= fun t18 => (idx units x8) >>= fun t19 => pure (t18 + t19)) >>= fun a21 => ((idx arcs x8) >>= fun t20 => idx t20 0) >>= fun j22 => setO s7.2 j22 a21 >>= fun leaving =>
pure (incoming, leaving)) xs23 (incoming, leaving)) >>= fun s24 =>
pure (s24.1, s24.2)
theorem x_law_sums : ∃ g : Int → (List (List Int)) → (List Int) → Out ((List Int) × (List Int)), g = b_law_sums := ⟨_, rfl⟩
def m_law_sums : Int → (List (List Int)) → (List Int) → Out ((List Int) × (List Int)) := Classical.choose x_law_sums
theorem m_law_sums_eq : m_law_sums = b_law_sums := Classical.choose_spec x_law_sums
abbrev P_law_sums : Par (Int × (List (List Int)) × (List Int) × Unit) := (pC tInt (pC (tLst (tLst tInt)) (pC (tLst tInt) pN)))
abbrev u_law_sums (i : Int × (List (List Int)) × (List Int) × Unit) : Out ((List Int) × (List Int)) := m_law_sums i.1 i.2.1 i.2.2.1
theorem sc_law_sums : FnScope ["count", "arcs", "units", "incoming", "leaving", "k"] ["count", "arcs", "units"] (defScope s_law_sums) := ⟨rfl, rfl, rfl, by decide +kernel, rfl, by decide +kernel, by decide +kernel⟩
abbrev sp_law_sums (K : PySem.W.Frag) : Sp := Sps P_law_sums u_law_sums (tL2 (tLst tInt) (tLst tInt)) K
theorem ok_law_sums {fd : FuncData} (Z : Fre mg) (F : FunD K "_law_sums" "_law_sums" (defArgs s_law_sums) (defBody s_law_sums) (defScope s_law_sums) [] [] (He.fAd K ("_law_sums", none)) fd) (g : mg "_law_sums" = some (.ref (He.fAd K ("_law_sums", none))))    : Def Pr w K mg base 1 "_law_sums" ["count", "arcs", "units"] [] (sp_law_sums K) := by
  refine ⟨_, fd, [], fn_body F sc_law_sums rfl (by decide) (fun X E B i e1 e2 e3 e4 e5 hW C => ?_), g, F.kp, F.bindsN (fun _ _ _ _ _ _ us hl => match us, hl with | [_, _, _], _ => rfl), .nil⟩
  subst e1 e2 e3 e4 e5
  obtain ⟨count, arcs, units, _⟩ := i
  show WS X E B [iS tInt count, iS (tLst (tLst tInt)) arcs, iS (tLst tInt) units, .any, .any, .any] [_] (m_law_sums count arcs units) _
  rw [m_law_sums_eq]
  unfold b_law_sums
  exact ws_lc (f := _) C 3 [("k", 5)] (by decide +kernel) (WIg.s (WI.cast (m' := rangeO count) (wi_range C Z (we_var C 0)) (by first | rfl | simp only [bind_as, pure_b]))) (ix := [5]) (by decide) (fun s_ H_ Cc_ cl_ fp_ C => (wg_name C 5)) (fun s_ H_ Cc_ cl_ fp_ k1 C => WE.cast (m' := pure 0) we_int (by first | rfl | simp only [bind_as, pure_b])) (fun incoming =>
ws_lc (f := _) C 4 [("k", 5)] (by decide +kernel) (WIg.s (WI.cast (m' := rangeO count) (wi_range C Z (we_var C 0)) (by first | rfl | simp only [bind_as, pure_b]))) (ix := [5]) (by decide) (fun s_ H_ Cc_ cl_ fp_ C => (wg_name C 5)) (fun s_ H_ Cc_ cl_ fp_ k4 C => WE.cast (m' := pure 0) we_int (by first | rfl | simp only [bind_as, pure_b])) (fun leaving =>
ws_seq (Δ := (fun (s7 : (List Int) × (List Int)) => [iS tInt count, iS (tLst (tLst tInt)) arcs, iS (tLst tInt) units, .on _ (oLst tInt) s7.1, .on _ (oLst tInt) s7.2, .any])) (w1_for C (WI.cast (m' := pure (upto arcs.length)) (wi_rlen C Z rl_len (WE.rd (we_var C 1))) (by first | rfl | simp only [bind_as, pure_b])) (wg_name C 5) (Δ := (fun (s7 : (List Int) × (List Int)) => [iS tInt count, iS (tLst (tLst tInt)) arcs, iS (tLst tInt) units, .on _ (oLst tInt) s7.1, .on _ (oLst tInt) s7.2, .any])) (s0 := (incoming, leaving)) (Weak.same (Weak.same (Weak.same (Weak.same (Weak.same (Weak.same Weak.nil)))))) (by exact (fun s7 x8 =>
ws_setI C 3 (WE.cast (m' := (((idx arcs x8) >>= fun t9 => idx t9 1) >>= fun t10 => idx s7.1 t10) >>= fun t11 => (idx units x8) >>= fun t12 => pure (t11 + t12)) (we_add (we_ixL (WE.hr (we_ovar C 3)) (we_ixL (WE.rd (we_ixL (WE.rd (we_var C 1)) (we_var C 5))) we_int)) (we_ixL (WE.rd (we_var C 2)) (we_var C 5))) (by first | rfl | simp only [bind_as, pure_b])) (WE.cast (m' := (idx arcs x8) >>= fun t13 => idx t13 1) (we_ixL (WE.rd (we_ixL (WE.rd (we_var C 1)) (we_var C 5))) we_int) (by first | rfl | simp only [bind_as, pure_b])) (fun incoming =>
ws_setI C 4 (WE.cast (m' := (((idx arcs x8) >>= fun t16 => idx t16 0) >>= fun t17 => idx s7.2 t17) >>= fun t18 => (idx units x8) >>= fun t19 => pure (t18 + t19)) (we_add (we_ixL (WE.hr (we_ovar C 4)) (we_ixL (WE.rd (we_ixL (WE.rd (we_var C 1)) (we_var C 5))) we_int)) (we_ixL (WE.rd (we_var C 2)) (we_var C 5))) (by first | rfl | simp only [bind_as, pure_b])) (WE.cast (m' := (idx arcs x8) >>= fun t20 => idx t20 0) (we_ixL (WE.rd (we_ixL (WE.rd (we_var C 1)) (we_var C 5))) we_int) (by first | rfl | simp only [bind_as, pure_b])) (fun leaving =>
ws_fin rfl (Weak.same (Weak.same (Weak.same (Weak.same (Weak.same (Weak.any Weak.nil))))))))))) (fun s24 =>
ws_fz 3 (fz_lst _) hW rfl (
ws_fz 4 (fz_lst _) hW rfl (
ws_ret0 (WE.cast (m' := pure (s24.1, s24.2)) (we_l2 (we_var C 3) (we_var C 4)) (by first | rfl | simp only [bind_as, pure_b])) (fun _ => rfl))))))
def b_law_sumsT (count : Int) (arcs : List (List Int)) (units : List Int) : Out ((List Int) × (List Int)) :=
((rangeO count) >>= fun xs3 => mapO (fun k1 => pure 0) xs3) >>= fun incoming =>
((rangeO count) >>= fun xs6 => mapO (fun k4 => pure 0) xs6) >>= fun leaving =>
((pure (upto arcs.length)) >>= fun xs23 => forO (fun (s7 : (List Int) × (List Int)) (x8 : Int) =>
((((idx arcs x8) >>= fun t9 => idx t9 1) >>= fun t10 => idx s7.1 t10) >>= fun t11 => (idx units x8) >>= fun t12 => pure (t11 + t12)) >>= fun a14 => ((idx arcs x8) >>= fun t13 => idx t13 1) >>= fun j15 => setO s7.1 j15 a14 >>= fun incoming =>
((((idx arcs x8) >>= fun t16 => idx t16 0) >>= fun t17 => idx s7.2 t17) >>= fun t18 => (idx units x8) >>= fun t19 => pure (t18 + t19)) >>= fun a21 => ((idx arcs x8) >>= fun t20 => idx t20 0) >>= fun j22 => setO s7.2 j22 a21 >>= fun leaving =>
pure (incoming, leaving)) xs23 (incoming, leaving)) >>= fun s24 =>
pure (s24.1, s24.2)
theorem x_law_sumsT : ∃ g : Int → (List (List Int)) → (List Int) → Out ((List Int) × (List Int)), g = b_law_sumsT := ⟨_, rfl⟩
def m_law_sumsT : Int → (List (List Int)) → (List Int) → Out ((List Int) × (List Int)) := Classical.choose x_law_sumsT
theorem m_law_sumsT_eq : m_law_sumsT = b_law_sumsT := Classical.choose_spec x_law_sumsT
abbrev P_law_sumsT : Par (Int × (List (List Int)) × (List Int) × Unit) := (pC tInt (pC (tLst (tLst tInt)) (pC (tTup tInt) pN)))
abbrev u_law_sumsT (i : Int × (List (List Int)) × (List Int) × Unit) : Out ((List Int) × (List Int)) := m_law_sumsT i.1 i.2.1 i.2.2.1
theorem sc_law_sumsT : FnScope ["count", "arcs", "units", "incoming", "leaving", "k"] ["count", "arcs", "units"] (defScope s_law_sums) := ⟨rfl, rfl, rfl, by decide +kernel, rfl, by decide +kernel, by decide +kernel⟩
abbrev sp_law_sumsT (K : PySem.W.Frag) : Sp := Sps P_law_sumsT u_law_sumsT (tL2 (tLst tInt) (tLst tInt)) K
theorem ok_law_sumsT {fd : FuncData} (Z : Fre mg) (F : FunD K "_law_sums" "_law_sums" (defArgs s_law_sums) (defBody s_law_sums) (defScope s_law_sums) [] [] (He.fAd K ("_law_sums", none)) fd) (g : mg "_law_sums" = some (.ref (He.fAd K ("_law_sums", none))))    : Def Pr w K mg base 1 "_law_sums" ["count", "arcs", "units"] [] (sp_law_sumsT K) := by
  refine ⟨_, fd, [], fn_body F sc_law_sumsT rfl (by decide) (fun X E B i e1 e2 e3 e4 e5 hW C => ?_), g, F.kp, F.bindsN (fun _ _ _ _ _ _ us hl => match us, hl with | [_, _, _], _ => rfl), .nil⟩
  subst e1 e2 e3 e4 e5
  obtain ⟨count, arcs, units, _⟩ := i
  show WS X E B [iS tInt count, iS (tLst (tLst tInt)) arcs, iS (tTup tInt) units, .any, .any, .any] [_] (m_law_sumsT count arcs units) _
  rw [m_law_sumsT_eq]
  unfold b_law_sumsT
  exact ws_lc (f := _) C 3 [("k", 5)] (by decide +kernel) (WIg.s (WI.cast (m' := rangeO count) (wi_range C Z (we_var C 0)) (by first | rfl | simp only [bind_as, pure_b]))) (ix := [5]) (by decide) (fun s_ H_ Cc_ cl_ fp_ C => (wg_name C 5)) (fun s_ H_ Cc_ cl_ fp_ k1 C => WE.cast (m' := pure 0) we_int (by first | rfl | simp only [bind_as, pure_b])) (fun incoming =>
ws_lc (f := _) C 4 [("k", 5)] (by decide +kernel) (WIg.s (WI.cast (m' := rangeO count) (wi_range C Z (we_var C 0)) (by first | rfl | simp only [bind_as, pure_b]))) (ix := [5]) (by decide) (fun s_ H_ Cc_ cl_ fp_ C => (wg_name C 5)) (fun s_ H_ Cc_ cl_ fp_ k4 C => WE.cast (m' := pure 0) we_int (by first | rfl | simp only [bind_as, pure_b])) (fun leaving =>
ws_seq (Δ := (fun (s7 : (List Int) × (List Int)) => [iS tInt count, iS (tLst (tLst tInt)) arcs, iS (tTup tInt) units, .on _ (oLst tInt) s7.1, .on _ (oLst tInt) s7.2, .any])) (w1_for C (WI.cast (m' := pure (upto arcs.length)) (wi_rlen C Z rl_len (WE.rd (we_var C 1))) (by first | rfl | simp only [bind_as, pure_b])) (wg_name C 5) (Δ := (fun (s7 : (List Int) × (List Int)) => [iS tInt count, iS (tLst (tLst tInt)) arcs, iS (tTup tInt) units, .on _ (oLst tInt) s7.1, .on _ (oLst tInt) s7.2, .any])) (s0 := (incoming, leaving)) (Weak.same (Weak.same (Weak.same (Weak.same (Weak.same (Weak.same Weak.nil)))))) (by exact (fun s7 x8 =>
ws_setI C 3 (WE.cast (m' := (((idx arcs x8) >>= fun t9 => idx t9 1) >>= fun t10 => idx s7.1 t10) >>= fun t11 => (idx units x8) >>= fun t12 => pure (t11 + t12)) (we_add (we_ixL (WE.hr (we_ovar C 3)) (we_ixL (WE.rd (we_ixL (WE.rd (we_var C 1)) (we_var C 5))) we_int)) (we_ixT (we_var C 2) (we_var C 5))) (by first | rfl | simp only [bind_as, pure_b])) (WE.cast (m' := (idx arcs x8) >>= fun t13 => idx t13 1) (we_ixL (WE.rd (we_ixL (WE.rd (we_var C 1)) (we_var C 5))) we_int) (by first | rfl | simp only [bind_as, pure_b])) (fun incoming =>
ws_setI C 4 (WE.cast (m' := (((idx arcs x8) >>= fun t16 => idx t16 0) >>= fun t17 => idx s7.2 t17) >>= fun t18 => (idx units x8) >>= fun t19 => pure (t18 + t19)) (we_add (we_ixL (WE.hr (we_ovar C 4)) (we_ixL (WE.rd (we_ixL (WE.rd (we_var C 1)) (we_var C 5))) we_int)) (we_ixT (we_var C 2) (we_var C 5))) (by first | rfl | simp only [bind_as, pure_b])) (WE.cast (m' := (idx arcs x8) >>= fun t20 => idx t20 0) (we_ixL (WE.rd (we_ixL (WE.rd (we_var C 1)) (we_var C 5))) we_int) (by first | rfl | simp only [bind_as, pure_b])) (fun leaving =>
ws_fin rfl (Weak.same (Weak.same (Weak.same (Weak.same (Weak.same (Weak.any Weak.nil))))))))))) (fun s24 =>
ws_fz 3 (fz_lst _) hW rfl (
ws_fz 4 (fz_lst _) hW rfl (
ws_ret0 (WE.cast (m' := pure (s24.1, s24.2)) (we_l2 (we_var C 3) (we_var C 4)) (by first | rfl | simp only [bind_as, pure_b])) (fun _ => rfl))))))
def b_law_has_ring (count : Int) (arcs : List (List Int)) (units : List Int) : Out Bool :=
((pure (upto arcs.length)) >>= fun xs3 => compO (fun k1 => ifO ((idx units k1) >>= fun t2 => pure (decide (0 < t2))) (pure k1)) xs3) >>= fun live =>
((rangeO count) >>= fun xs20 => forO (fun (s4 : (List Int)) (x5 : Int) =>
((rangeO count) >>= fun t7 => mapO (fun k6 => pure false) t7) >>= fun tails =>
((pure s4) >>= fun xs14 => forO (fun (s9 : (List Bool)) (x10 : Int) =>
(pure true) >>= fun a12 => ((idx arcs x10) >>= fun t11 => idx t11 0) >>= fun j13 => setO s9 j13 a12 >>= fun tails =>
pure tails) xs14 tails) >>= fun s15 =>
((pure s4) >>= fun xs19 => compO (fun k16 => ifO (((idx arcs k16) >>= fun t17 => idx t17 1) >>= fun t18 => idx s15 t18) (pure k16)) xs19) >>= fun live =>
pure live) xs20 live) >>= fun s21 =>
pure (decide (0 < (s21.length : Int)))
theorem x_law_has_ring : ∃ g : Int → (List (List Int)) → (List Int) → Out Bool, g = b_law_has_ring := ⟨_, rfl⟩
def m_law_has_ring : Int → (List (List Int)) → (List Int) → Out Bool := Classical.choose x_law_has_ring
theorem m_law_has_ring_eq : m_law_has_ring = b_law_has_ring := Classical.choose_spec x_law_has_ring
abbrev P_law_has_ring : Par (Int × (List (List Int)) × (List Int) × Unit) := (pC tInt (pC (tLst (tLst tInt)) (pC (tLst tInt) pN)))
abbrev u_law_has_ring (i : Int × (List (List Int)) × (List Int) × Unit) : Out Bool := m_law_has_ring i.1 i.2.1 i.2.2.1
theorem sc_law_has_ring : FnScope ["count", "arcs", "units", "live", "turn", "tails", "k"] ["count", "arcs", "units"] (defScope s_law_has_ring) := ⟨rfl, rfl, rfl, by decide +kernel, rfl, by decide +kernel, by decide +kernel⟩
abbrev sp_law_has_ring (K : PySem.W.Frag) : Sp := Sps P_law_has_ring u_law_has_ring tBool K
theorem ok_law_has_ring {fd : FuncData} (Z : Fre mg) (F : FunD K "_law_has_ring" "_law_has_ring" (defArgs s_law_has_ring) (defBody s_law_has_ring) (defScope s_law_has_ring) [] [] (He.fAd K ("_law_has_ring", none)) fd) (g : mg "_law_has_ring" = some (.ref (He.fAd K ("_law_has_ring", none))))    : Def Pr w K mg base 1 "_law_has_ring" ["count", "arcs", "units"] [] (sp_law_has_ring K) := by
  refine ⟨_, fd, [], fn_body F sc_law_has_ring rfl (by decide) (fun X E B i e1 e2 e3 e4 e5 hW C => ?_), g, F.kp, F.bindsN (fun _ _ _ _ _ _ us hl => match us, hl with | [_, _, _], _ => rfl), .nil⟩
  subst e1 e2 e3 e4 e5
  obtain ⟨count, arcs, units, _⟩ := i
  show WS X E B [iS tInt count, iS (tLst (tLst tInt)) arcs, iS (tLst tInt) units, .any, .any, .any, .any] [_] (m_law_has_ring count arcs units) _
  rw [m_law_has_ring_eq]
  unfold b_law_has_ring
  exact ws_lcif (f := _) C 3 [("k", 6)] (by decide +kernel) (WIg.s (WI.cast (m' := pure (upto arcs.length)) (wi_rlen C Z rl_len (WE.rd (we_var C 1))) (by first | rfl | simp only [bind_as, pure_b]))) (ix := [6]) (by decide) (fun s_ H_ Cc_ cl_ fp_ C => (wg_name C 6)) (fun s_ H_ Cc_ cl_ fp_ k1 C => WTs.cast (m' := (idx units k1) >>= fun t2 => pure (decide (0 < t2))) (wts_one (wt_gt (we_ixL (WE.rd (we_var C 2)) (we_var C 6)) we_int)) rfl) (fun s_ H_ Cc_ cl_ fp_ k1 C => WE.cast (m' := pure k1) (we_var C 6) (by first | rfl | simp only [bind_as, pure_b])) (fun live => ws_fz 3 (fz_lst _) hW rfl (
ws_seq (Δ := (fun (s4 : (List Int)) => [iS tInt count, iS (tLst (tLst tInt)) arcs, iS (tLst tInt) units, iS (tLst tInt) s4, .any, .any, .any])) (w1_for C (WI.cast (m' := rangeO count) (wi_range C Z (we_var C 0)) (by first | rfl | simp only [bind_as, pure_b])) (wg_name C 4) (Δ := (fun (s4 : (List Int)) => [iS tInt count, iS (tLst (tLst tInt)) arcs, iS (tLst tInt) units, iS (tLst tInt) s4, .any, .any, .any])) (s0 := live) (Weak.same (Weak.same (Weak.same (Weak.same (Weak.same (Weak.same (Weak.same Weak.nil))))))) (by exact (fun s4 x5 =>
ws_setO C 5 (WO.cast (m' := (rangeO count) >>= fun t7 => mapO (fun k6 => pure false) t7) (wo_lc C [("k", 6)] (by decide +kernel) (WIg.s (WI.cast (m' := rangeO count) (wi_range C Z (we_var C 0)) (by first | rfl | simp only [bind_as, pure_b]))) (ix := [6]) (by decide) (fun s_ H_ Cc_ cl_ fp_ C => (wg_name C 6)) (fun s_ H_ Cc_ cl_ fp_ k6 C => WE.cast (m' := pure false) we_bl (by first | rfl | simp only [bind_as, pure_b]))) (by first | rfl | simp only [bind_as, pure_b])) (hs := sw_no C (by first | exact Or.inl rfl | exact Or.inr (by decide +kernel))) (fun tails =>
ws_seq (Δ := (fun (s9 : (List Bool)) => [iS tInt count, iS (tLst (tLst tInt)) arcs, iS (tLst tInt) units, iS (tLst tInt) s4, iS tInt x5, .on _ (oLst tBool) s9, .any])) (w1_for C (WI.cast (m' := pure s4) (wi_lst (we_var C 3)) (by first | rfl | simp only [bind_as, pure_b])) (wg_name C 6) (Δ := (fun (s9 : (List Bool)) => [iS tInt count, iS (tLst (tLst tInt)) arcs, iS (tLst tInt) units, iS (tLst tInt) s4, iS tInt x5, .on _ (oLst tBool) s9, .any])) (s0 := tails) (Weak.same (Weak.same (Weak.same (Weak.same (Weak.same (Weak.same (Weak.same Weak.nil))))))) (by exact (fun s9 x10 =>
ws_setI C 5 (WE.cast (m' := pure true) we_bl (by first | rfl | simp only [bind_as, pure_b])) (WE.cast (m' := (idx arcs x10) >>= fun t11 => idx t11 0) (we_ixL (WE.rd (we_ixL (WE.rd (we_var C 1)) (we_var C 6))) we_int) (by first | rfl | simp only [bind_as, pure_b])) (fun tails =>
ws_fin rfl (Weak.same (Weak.same (Weak.same (Weak.same (Weak.same (Weak.same (Weak.any Weak.nil))))))))))) (fun s15 =>
ws_lcif (f := _) C 3 [("k", 6)] (by decide +kernel) (WIg.s (WI.cast (m' := pure s4) (wi_lst (we_var C 3)) (by first | rfl | simp only [bind_as, pure_b]))) (ix := [6]) (by decide) (fun s_ H_ Cc_ cl_ fp_ C => (wg_name C 6)) (fun s_ H_ Cc_ cl_ fp_ k16 C => WTs.cast (m' := ((idx arcs k16) >>= fun t17 => idx t17 1) >>= fun t18 => idx s15 t18) (wts_one (wt_val (we_ixL (WE.hr (we_ovar C 5)) (we_ixL (WE.rd (we_ixL (WE.rd (we_var C 1)) (we_var C 6))) we_int)))) rfl) (fun s_ H_ Cc_ cl_ fp_ k16 C => WE.cast (m' := pure k16) (we_var C 6) (by first | rfl | simp only [bind_as, pure_b])) (fun live => ws_fz 3 (fz_lst _) hW rfl (
ws_fin rfl (Weak.same (Weak.same (Weak.same (Weak.same (Weak.any (Weak.any (Weak.same Weak.nil)))))))))))))) (fun s21 =>
ws_ret0 (WE.cast (m' := pure (decide (0 < (s21.length : Int)))) (we_gt (we_lenL C Z (WE.rd (we_var C 3))) we_int) (by first | rfl | simp only [bind_as, pure_b])) (fun _ => rfl))))
def b_law_has_ringT (count : Int) (arcs : List (List Int)) (units : List Int) : Out Bool :=
((pure (upto arcs.length)) >>= fun xs3 => compO (fun k1 => ifO ((idx units k1) >>= fun t2 => pure (decide (0 < t2))) (pure k1)) xs3) >>= fun live =>
((rangeO count) >>= fun xs20 => forO (fun (s4 : (List Int)) (x5 : Int) =>
((rangeO count) >>= fun t7 => mapO (fun k6 => pure false) t7) >>= fun tails =>
((pure s4) >>= fun xs14 => forO (fun (s9 : (List Bool)) (x10 : Int) =>
(pure true) >>= fun a12 => ((idx arcs x10) >>= fun t11 => idx t11 0) >>= fun j13 => setO s9 j13 a12 >>= fun tails =>
pure tails) xs14 tails) >>= fun s15 =>
((pure s4) >>= fun xs19 => compO (fun k16 => ifO (((idx arcs k16) >>= fun t17 => idx t17 1) >>= fun t18 => idx s15 t18) (pure k16)) xs19) >>= fun live =>
pure live) xs20 live) >>= fun s21 =>
pure (decide (0 < (s21.length : Int)))
theorem x_law_has_ringT : ∃ g : Int → (List (List Int)) → (List Int) → Out Bool, g = b_law_has_ringT := ⟨_, rfl⟩
def m_law_has_ringT : Int → (List (List Int)) → (List Int) → Out Bool := Classical.choose x_law_has_ringT
theorem m_law_has_ringT_eq : m_law_has_ringT = b_law_has_ringT := Classical.choose_spec x_law_has_ringT
abbrev P_law_has_ringT : Par (Int × (List (List Int)) × (List Int) × Unit) := (pC tInt (pC (tLst (tLst tInt)) (pC (tTup tInt) pN)))
abbrev u_law_has_ringT (i : Int × (List (List Int)) × (List Int) × Unit) : Out Bool := m_law_has_ringT i.1 i.2.1 i.2.2.1
theorem sc_law_has_ringT : FnScope ["count", "arcs", "units", "live", "turn", "tails", "k"] ["count", "arcs", "units"] (defScope s_law_has_ring) := ⟨rfl, rfl, rfl, by decide +kernel, rfl, by decide +kernel, by decide +kernel⟩
abbrev sp_law_has_ringT (K : PySem.W.Frag) : Sp := Sps P_law_has_ringT u_law_has_ringT tBool K
theorem ok_law_has_ringT {fd : FuncData} (Z : Fre mg) (F : FunD K "_law_has_ring" "_law_has_ring" (defArgs s_law_has_ring) (defBody s_law_has_ring) (defScope s_law_has_ring) [] [] (He.fAd K ("_law_has_ring", none)) fd) (g : mg "_law_has_ring" = some (.ref (He.fAd K ("_law_has_ring", none))))    : Def Pr w K mg base 1 "_law_has_ring" ["count", "arcs", "units"] [] (sp_law_has_ringT K) := by
  refine ⟨_, fd, [], fn_body F sc_law_has_ringT rfl (by decide) (fun X E B i e1 e2 e3 e4 e5 hW C => ?_), g, F.kp, F.bindsN (fun _ _ _ _ _ _ us hl => match us, hl with | [_, _, _], _ => rfl), .nil⟩
  subst e1 e2 e3 e4 e5
  obtain ⟨count, arcs, units, _⟩ := i
  show WS X E B [iS tInt count, iS (tLst (tLst tInt)) arcs, iS (tTup tInt) units, .any, .any, .any, .any] [_] (m_law_has_ringT count arcs units) _
  rw [m_law_has_ringT_eq]
  unfold b_law_has_ringT
  exact ws_lcif (f := _) C 3 [("k", 6)] (by decide +kernel) (WIg.s (WI.cast (m' := pure (upto arcs.length)) (wi_rlen C Z rl_len (WE.rd (we_var C 1))) (by first | rfl | simp only [bind_as, pure_b]))) (ix := [6]) (by decide) (fun s_ H_ Cc_ cl_ fp_ C => (wg_name C 6)) (fun s_ H_ Cc_ cl_ fp_ k1 C => WTs.cast (m' := (idx units k1) >>= fun t2 => pure (decide (0 < t2))) (wts_one (wt_gt (we_ixT (we_var C 2) (we_var C 6)) we_int)) rfl) (fun s_ H_ Cc_ cl_ fp_ k1 C => WE.cast (m' := pure k1) (we_var C 6) (by first | rfl | simp only [bind_as, pure_b])) (fun live => ws_fz 3 (fz_lst _) hW rfl (
ws_seq (Δ := (fun (s4 : (List Int)) => [iS tInt count, iS (tLst (tLst tInt)) arcs, iS (tTup tInt) units, iS (tLst tInt) s4, .any, .any, .any])) (w1_for C (WI.cast (m' := rangeO count) (wi_range C Z (we_var C 0)) (by first | rfl | simp only [bind_as, pure_b])) (wg_name C 4) (Δ := (fun (s4 : (List Int)) => [iS tInt count, iS (tLst (tLst tInt)) arcs, iS (tTup tInt) units, iS (tLst tInt) s4, .any, .any, .any])) (s0 := live) (Weak.same (Weak.same (Weak.same (Weak.same (Weak.same (Weak.same (Weak.same Weak.nil))))))) (by exact (fun s4 x5 =>
ws_setO C 5 (WO.cast (m' := (rangeO count) >>= fun t7 => mapO (fun k6 => pure false) t7) (wo_lc C [("k", 6)] (by decide +kernel) (WIg.s (WI.cast (m' := rangeO count) (wi_range C Z (we_var C 0)) (by first | rfl | simp only [bind_as, pure_b]))) (ix := [6]) (by decide) (fun s_ H_ Cc_ cl_ fp_ C => (wg_name C 6)) (fun s_ H_ Cc_ cl_ fp_ k6 C => WE.cast (m' := pure false) we_bl (by first | rfl | simp only [bind_as, pure_b]))) (by first | rfl | simp only [bind_as, pure_b])) (hs := sw_no C (by first | exact Or.inl rfl | exact Or.inr (by decide +kernel))) (fun tails =>
ws_seq (Δ := (fun (s9 : (List Bool)) => [iS tInt count, iS (tLst (tLst tInt)) arcs, iS (tTup tInt) units, iS (tLst tInt) s4, iS tInt x5, .on _ (oLst tBool) s9, .any])) (w1_for C (WI.cast (m' := pure s4) (wi_lst (we_var C 3)) (by first | rfl | simp only [bind_as, pure_b])) (wg_name C 6) (Δ := (fun (s9 : (List Bool)) => [iS tInt count, iS (tLst (tLst tInt)) arcs, iS (tTup tInt) units, iS (tLst tInt) s4, iS tInt x5, .on _ (oLst tBool) s9, .any])) (s0 := tails) (Weak.same (Weak.same (Weak.same (Weak.same (Weak.same (Weak.same (Weak.same Weak.nil))))))) (by exact (fun s9 x10 =>
ws_setI C 5 (WE.cast (m' := pure true) we_bl (by first | rfl | simp only [bind_as, pure_b])) (WE.cast (m' := (idx arcs x10) >>= fun t11 => idx t11 0) (we_ixL (WE.rd (we_ixL (WE.rd (we_var C 1)) (we_var C 6))) we_int) (by first | rfl | simp only [bind_as, pure_b])) (fun tails =>
ws_fin rfl (Weak.same (Weak.same (Weak.same (Weak.same (Weak.same (Weak.same (Weak.any Weak.nil))))))))))) (fun s15 =>
ws_lcif (f := _) C 3 [("k", 6)] (by decide +kernel) (WIg.s (WI.cast (m' := pure s4) (wi_lst (we_var C 3)) (by first | rfl | simp only [bind_as, pure_b]))) (ix := [6]) (by decide) (fun s_ H_ Cc_ cl_ fp_ C => (wg_name C 6)) (fun s_ H_ Cc_ cl_ fp_ k16 C => WTs.cast (m' := ((idx arcs k16) >>= fun t17 => idx t17 1) >>= fun t18 => idx s15 t18) (wts_one (wt_val (we_ixL (WE.hr (we_ovar C 5)) (we_ixL (WE.rd (we_ixL (WE.rd (we_var C 1)) (we_var C 6))) we_int)))) rfl) (fun s_ H_ Cc_ cl_ fp_ k16 C => WE.cast (m' := pure k16) (we_var C 6) (by first | rfl | simp only [bind_as, pure_b])) (fun live => ws_fz 3 (fz_lst _) hW rfl (
ws_fin rfl (Weak.same (Weak.same (Weak.same (Weak.same (Weak.any (Weak.any (Weak.same Weak.nil)))))))))))))) (fun s21 =>
ws_ret0 (WE.cast (m' := pure (decide (0 < (s21.length : Int)))) (we_gt (we_lenL C Z (WE.rd (we_var C 3))) we_int) (by first | rfl | simp only [bind_as, pure_b])) (fun _ => rfl))))
def b_law_numbers (told : List Int) (count : Int) : Out Bool :=
(if (!true) = true then pure true else pure (!decide ((told.length : Int) = count))) >>= fun c1 => if c1 = true then (
pure false)
else (
(compO (fun number2 => ifO ((m_law_whole number2) >>= fun t3 => pure (!t3)) (pure number2)) told) >>= fun t5 => pure (decide (t5 = ([] : List Int))))
theorem x_law_numbers : ∃ g : (List Int) → Int → Out Bool, g = b_law_numbers := ⟨_, rfl⟩
def m_law_numbers : (List Int) → Int → Out Bool := Classical.choose x_law_numbers
theorem m_law_numbers_eq : m_law_numbers = b_law_numbers := Classical.choose_spec x_law_numbers
abbrev P_law_numbers : Par ((List Int) × Int × Unit) := (pC (tTup tInt) (pC tInt pN))
abbrev u_law_numbers (i : (List Int) × Int × Unit) : Out Bool := m_law_numbers i.1 i.2.1
theorem sc_law_numbers : FnScope ["told", "count", "number"] ["told", "count"] (defScope s_law_numbers) := ⟨rfl, rfl, rfl, by decide +kernel, rfl, by decide +kernel, by decide +kernel⟩
abbrev sp_law_numbers (K : PySem.W.Frag) : Sp := Sps P_law_numbers u_law_numbers tBool K
theorem ok_law_numbers {fd : FuncData} (Z : Fre mg) (F : FunD K "_law_numbers" "_law_numbers" (defArgs s_law_numbers) (defBody s_law_numbers) (defScope s_law_numbers) [] [] (He.fAd K ("_law_numbers", none)) fd) (g : mg "_law_numbers" = some (.ref (He.fAd K ("_law_numbers", none)))) (G_law_whole : Def Pr w K mg base 1 "_law_whole" ["value"] [] (sp_law_whole K))   : Def Pr w K mg base 2 "_law_numbers" ["told", "count"] [] (sp_law_numbers K) := by
  refine ⟨_, fd, [], fn_body F sc_law_numbers rfl (by decide) (fun X E B i e1 e2 e3 e4 e5 hW C => ?_), g, F.kp, F.bindsN (fun _ _ _ _ _ _ us hl => match us, hl with | [_, _], _ => rfl), .nil⟩
  subst e1 e2 e3 e4 e5
  obtain ⟨told, count, _⟩ := i
  show WS X E B [iS (tTup tInt) told, iS tInt count, .any] [_] (m_law_numbers told count) _
  rw [m_law_numbers_eq]
  unfold b_law_numbers
  exact ws_if (WT.cast (m' := if (!true) = true then pure true else pure (!decide ((told.length : Int) = count))) (wt_b (wb_or (wt_not (wt_val (we_isi C Z (cn := "tuple") (fun _ => true) ty_tup (fun _ => by decide +kernel) (we_var C 0) Z.tuple (by decide +kernel)))) (wb_or1 (wt_ne eqs_int (we_lenT C Z (we_var C 0)) (we_var C 1))))) (by first | rfl | simp only [bind_as, pure_b])) (
ws_ret0 (WE.cast (m' := pure false) we_bl (by first | rfl | simp only [bind_as, pure_b])) (fun _ => rfl)) (
ws_pop (ws_ret0 (WE.cast (m' := (compO (fun number2 => ifO ((m_law_whole number2) >>= fun t3 => pure (!t3)) (pure number2)) told) >>= fun t5 => pure (decide (t5 = ([] : List Int)))) (we_eqD C (cLst cInt) (dp_rl dp_int) (dp_rl dp_int) (WO.rd (wo_lcif C [("number", 2)] (by decide +kernel) (WIg.s (WI.cast (m' := pure told) (wi_tup (we_var C 0)) (by first | rfl | simp only [bind_as, pure_b]))) (ix := [2]) (by decide) (fun s_ H_ Cc_ cl_ fp_ C => (wg_name C 2)) (fun s_ H_ Cc_ cl_ fp_ number2 C => WTs.cast (m' := (m_law_whole number2) >>= fun t3 => pure (!t3)) (wts_one (wt_not (wt_val (we_call C G_law_whole (by decide) (wa_cons (R := tInt.rl) (we_var C 2) fun a0 => wa_nil fun K F H s v0 r0 => ⟨(a0, ()), rfl, v0, _, rfl, r0, rfl⟩))))) rfl) (fun s_ H_ Cc_ cl_ fp_ number2 C => WE.cast (m' := pure number2) (we_var C 2) (by first | rfl | simp only [bind_as, pure_b])))) (WO.rd (wo_lst (wal_nil (T := tInt))))) (by first | (simp only [pure_b, bind_as]; done) | rfl)) (fun _ => rfl)))
def b_law_right (count : Int) (arcs : List (List Int)) (units : List Int) (told : List Int) : Out Bool :=
((m_law_numbers told (arcs.length : Int)) >>= fun t1 => pure (!t1)) >>= fun c2 => if c2 = true then (
pure false)
else (
((compO (fun k3 => ifO (((idx told k3) >>= fun t4 => pure (decide (t4 < 0))) >>= fun t7 => if t7 = true then pure true else (idx told k3) >>= fun t5 => (idx units k3) >>= fun t6 => pure (decide (t6 < t5))) (pure k3)) (upto arcs.length)) >>= fun t9 => pure (!decide (t9 = ([] : List Int)))) >>= fun c10 => if c10 = true then (
pure false)
else (
(m_law_sums count arcs units) >>= fun old =>
(m_law_sumsT count arcs told) >>= fun less =>
((rangeO count) >>= fun xs21 => forR (fun (s11 : Unit) (x12 : Int) =>
(((idx old.2 x12) >>= fun t13 => (idx old.1 x12) >>= fun t14 => pure (t13 - t14)) >>= fun t17 => ((idx less.2 x12) >>= fun t15 => (idx less.1 x12) >>= fun t16 => pure (t15 - t16)) >>= fun t18 => pure (!decide (t17 = t18))) >>= fun c19 => if c19 = true then (
(pure false) >>= fun r20 => pure (Step.rt r20))
else (
pure (Step.nx ()))) xs21 ()) >>= fun t25 => (match t25 with
| Step.rt r24 => pure r24
| Step.nx s22 =>
(m_law_has_ringT count arcs told) >>= fun t23 => pure (!t23))))
theorem x_law_right : ∃ g : Int → (List (List Int)) → (List Int) → (List Int) → Out Bool, g = b_law_right := ⟨_, rfl⟩
def m_law_right : Int → (List (List Int)) → (List Int) → (List Int) → Out Bool := Classical.choose x_law_right
theorem m_law_right_eq : m_law_right = b_law_right := Classical.choose_spec x_law_right
abbrev P_law_right : Par (Int × (List (List Int)) × (List Int) × (List Int) × Unit) := (pC tInt (pC (tLst (tLst tInt)) (pC (tLst tInt) (pC (tTup tInt) pN))))
abbrev u_law_right (i : Int × (List (List Int)) × (List Int) × (List Int) × Unit) : Out Bool := m_law_right i.1 i.2.1 i.2.2.1 i.2.2.2.1
theorem sc_law_right : FnScope ["count", "arcs", "units", "told", "old", "less", "node", "k"] ["count", "arcs", "units", "told"] (defScope s_law_right) := ⟨rfl, rfl, rfl, by decide +kernel, rfl, by decide +kernel, by decide +kernel⟩
abbrev sp_law_right (K : PySem.W.Frag) : Sp := Sps P_law_right u_law_right tBool K
theorem ok_law_right {fd : FuncData} (Z : Fre mg) (F : FunD K "_law_right" "_law_right" (defArgs s_law_right) (defBody s_law_right) (defScope s_law_right) [] [] (He.fAd K ("_law_right", none)) fd) (g : mg "_law_right" = some (.ref (He.fAd K ("_law_right", none)))) (G_law_numbers : Def Pr w K mg base 2 "_law_numbers" ["told", "count"] [] (sp_law_numbers K)) (G_law_sums : Def Pr w K mg base 1 "_law_sums" ["count", "arcs", "units"] [] (sp_law_sums K)) (G_law_sumsT : Def Pr w K mg base 1 "_law_sums" ["count", "arcs", "units"] [] (sp_law_sumsT K)) (G_law_has_ringT : Def Pr w K mg base 1 "_law_has_ring" ["count", "arcs", "units"] [] (sp_law_has_ringT K))   : Def Pr w K mg base 3 "_law_right" ["count", "arcs", "units", "told"] [] (sp_law_right K) := by
  refine ⟨_, fd, [], fn_body F sc_law_right rfl (by decide) (fun X E B i e1 e2 e3 e4 e5 hW C => ?_), g, F.kp, F.bindsN (fun _ _ _ _ _ _ us hl => match us, hl with | [_, _, _, _], _ => rfl), .nil⟩
  subst e1 e2 e3 e4 e5
  obtain ⟨count, arcs, units, told, _⟩ := i
  show WS X E B [iS tInt count, iS (tLst (tLst tInt)) arcs, iS (tLst tInt) units, iS (tTup tInt) told, .any, .any, .any, .any] [_] (m_law_right count arcs units told) _
  rw [m_law_right_eq]
  unfold b_law_right
  exact ws_if (WT.cast (m' := (m_law_numbers told (arcs.length : Int)) >>= fun t1 => pure (!t1)) (wt_not (wt_val (we_call C G_law_numbers (by decide) (wa_cons (R := (tTup tInt).rl) (we_var C 3) fun a0 => wa_cons (R := tInt.rl) (we_lenL C Z (WE.rd (we_var C 1))) fun a1 => wa_nil fun K F H s v1 r1 v0 r0 => ⟨(a0, a1, ()), rfl, v0, _, rfl, r0, v1, _, rfl, r1, rfl⟩)))) (by first | (simp only [pure_b, bind_as]; done) | rfl)) (
ws_ret0 (WE.cast (m' := pure false) we_bl (by first | rfl | simp only [bind_as, pure_b])) (fun _ => rfl)) (
ws_pop (ws_if (WT.cast (m' := (compO (fun k3 => ifO (((idx told k3) >>= fun t4 => pure (decide (t4 < 0))) >>= fun t7 => if t7 = true then pure true else (idx told k3) >>= fun t5 => (idx units k3) >>= fun t6 => pure (decide (t6 < t5))) (pure k3)) (upto arcs.length)) >>= fun t9 => pure (!decide (t9 = ([] : List Int)))) (wt_neD C (cLst cInt) (dp_rl dp_int) (dp_rl dp_int) (WO.rd (wo_lcif C [("k", 7)] (by decide +kernel) (WIg.s (WI.cast (m' := pure (upto arcs.length)) (wi_rlen C Z rl_len (WE.rd (we_var C 1))) (by first | rfl | simp only [bind_as, pure_b]))) (ix := [7]) (by decide) (fun s_ H_ Cc_ cl_ fp_ C => (wg_name C 7)) (fun s_ H_ Cc_ cl_ fp_ k3 C => WTs.cast (m' := ((idx told k3) >>= fun t4 => pure (decide (t4 < 0))) >>= fun t7 => if t7 = true then pure true else (idx told k3) >>= fun t5 => (idx units k3) >>= fun t6 => pure (decide (t6 < t5))) (wts_one (wt_b (wb_or (wt_lt (we_ixT (we_var C 3) (we_var C 7)) we_int) (wb_or1 (wt_gt (we_ixT (we_var C 3) (we_var C 7)) (we_ixL (WE.rd (we_var C 2)) (we_var C 7))))))) rfl) (fun s_ H_ Cc_ cl_ fp_ k3 C => WE.cast (m' := pure k3) (we_var C 7) (by first | rfl | simp only [bind_as, pure_b])))) (WO.rd (wo_lst (wal_nil (T := tInt))))) (by first | rfl | simp only [bind_as, pure_b])) (
ws_ret0 (WE.cast (m' := pure false) we_bl (by first | rfl | simp only [bind_as, pure_b])) (fun _ => rfl)) (
ws_pop (ws_set C 4 (WE.cast (m' := m_law_sums count arcs units) (we_call C G_law_sums (by decide) (wa_cons (R := tInt.rl) (we_var C 0) fun a0 => wa_cons (R := (tLst (tLst tInt)).rl) (we_var C 1) fun a1 => wa_cons (R := (tLst tInt).rl) (we_var C 2) fun a2 => wa_nil fun K F H s v2 r2 v1 r1 v0 r0 => ⟨(a0, a1, a2, ()), rfl, v0, _, rfl, r0, v1, _, rfl, r1, v2, _, rfl, r2, rfl⟩)) (by first | (simp only [pure_b, bind_as]; done) | rfl)) (fun old =>
ws_set C 5 (WE.cast (m' := m_law_sumsT count arcs told) (we_call C G_law_sumsT (by decide) (wa_cons (R := tInt.rl) (we_var C 0) fun a0 => wa_cons (R := (tLst (tLst tInt)).rl) (we_var C 1) fun a1 => wa_cons (R := (tTup tInt).rl) (we_var C 3) fun a2 => wa_nil fun K F H s v2 r2 v1 r1 v0 r0 => ⟨(a0, a1, a2, ()), rfl, v0, _, rfl, r0, v1, _, rfl, r1, v2, _, rfl, r2, rfl⟩)) (by first | (simp only [pure_b, bind_as]; done) | rfl)) (fun less =>
ws_cons (D1 := DR (fun (s11 : Unit) => [iS tInt count, iS (tLst (tLst tInt)) arcs, iS (tLst tInt) units, iS (tTup tInt) told, iS (tL2 (tLst tInt) (tLst tInt)) old, iS (tL2 (tLst tInt) (tLst tInt)) less, .any, .any]) (fun b => .rt _ tBool b)) (w1_forR C (WI.cast (m' := rangeO count) (wi_range C Z (we_var C 0)) (by first | rfl | simp only [bind_as, pure_b])) (wg_name C 6) (Δ := (fun (s11 : Unit) => [iS tInt count, iS (tLst (tLst tInt)) arcs, iS (tLst tInt) units, iS (tTup tInt) told, iS (tL2 (tLst tInt) (tLst tInt)) old, iS (tL2 (tLst tInt) (tLst tInt)) less, .any, .any])) (s0 := ()) (Rt := (fun b => .rt _ tBool b)) (Weak.same (Weak.same (Weak.same (Weak.same (Weak.same (Weak.same (Weak.same (Weak.same Weak.nil)))))))) (by exact (fun s11 x12 =>
ws_if (WT.cast (m' := ((idx old.2 x12) >>= fun t13 => (idx old.1 x12) >>= fun t14 => pure (t13 - t14)) >>= fun t17 => ((idx less.2 x12) >>= fun t15 => (idx less.1 x12) >>= fun t16 => pure (t15 - t16)) >>= fun t18 => pure (!decide (t17 = t18))) (wt_ne eqs_int (we_sub (we_ixL (WE.rd (we_prj pl21 (we_var C 4))) (we_var C 6)) (we_ixL (WE.rd (we_prj pl20 (we_var C 4))) (we_var C 6))) (we_sub (we_ixL (WE.rd (we_prj pl21 (we_var C 5))) (we_var C 6)) (we_ixL (WE.rd (we_prj pl20 (we_var C 5))) (we_var C 6)))) (by first | rfl | simp only [bind_as, pure_b])) (
ws_ret (g := Step.rt) (WE.cast (m' := pure false) we_bl (by first | rfl | simp only [bind_as, pure_b])) (fun _ => rfl)) (
ws_pop (ws_fin rfl (Weak.same (Weak.same (Weak.same (Weak.same (Weak.same (Weak.same (Weak.any (Weak.same Weak.nil)))))))))))) (fun r => .inl ⟨_, _, _, rfl⟩)) (fun t25 => match t25 with
| Step.rt r24 => .inr ⟨trivial, r24, rfl, rfl⟩
| Step.nx s22 => .inl ⟨_, rfl, (
ws_ret0 (WE.cast (m' := (m_law_has_ringT count arcs told) >>= fun t23 => pure (!t23)) (we_not (we_call C G_law_has_ringT (by decide) (wa_cons (R := tInt.rl) (we_var C 0) fun a0 => wa_cons (R := (tLst (tLst tInt)).rl) (we_var C 1) fun a1 => wa_cons (R := (tTup tInt).rl) (we_var C 3) fun a2 => wa_nil fun K F H s v2 r2 v1 r1 v0 r0 => ⟨(a0, a1, a2, ()), rfl, v0, _, rfl, r0, v1, _, rfl, r1, v2, _, rfl, r2, rfl⟩))) (by first | (simp only [pure_b, bind_as]; done) | rfl)) (fun _ => rfl))⟩)))))))
def b_law_web_stays (made : (List Int) × (List Int) × (List (Int × Int × Int))) (web : (List Int) × (List Int) × (List (List Int))) : Out Bool :=
(((mapO (fun arc1 => pure arc1) web.2.2) >>= fun t3 => pure t3) >>= fun t4 => pure (web.1, web.2.1, t4)) >>= fun due =>
(reprO ((cL3 (cTup cInt) (cTup cInt) (cTup (cT3 cInt cInt cInt))).d (made.1, made.2.1, made.2.2))) >>= fun t5 => (reprO ((cL3 (cTup cInt) (cTup cInt) (cTup (cTup cInt))).d due)) >>= fun t6 => pure (decide (t5 = t6))
theorem x_law_web_stays : ∃ g : ((List Int) × (List Int) × (List (Int × Int × Int))) → ((List Int) × (List Int) × (List (List Int))) → Out Bool, g = b_law_web_stays := ⟨_, rfl⟩
def m_law_web_stays : ((List Int) × (List Int) × (List (Int × Int × Int))) → ((List Int) × (List Int) × (List (List Int))) → Out Bool := Classical.choose x_law_web_stays
theorem m_law_web_stays_eq : m_law_web_stays = b_law_web_stays := Classical.choose_spec x_law_web_stays
abbrev P_law_web_stays : Par (((List Int) × (List Int) × (List (Int × Int × Int))) × ((List Int) × (List Int) × (List (List Int))) × Unit) := (pC (tRec "Web" R_Web) (pC (tL3 (tLst tInt) (tLst tInt) (tLst (tLst tInt))) pN))
abbrev u_law_web_stays (i : ((List Int) × (List Int) × (List (Int × Int × Int))) × ((List Int) × (List Int) × (List (List Int))) × Unit) : Out Bool := m_law_web_stays i.1 i.2.1
theorem sc_law_web_stays : FnScope ["made", "web", "due", "arc"] ["made", "web"] (defScope s_law_web_stays) := ⟨rfl, rfl, rfl, by decide +kernel, rfl, by decide +kernel, by decide +kernel⟩
abbrev sp_law_web_stays (K : PySem.W.Frag) : Sp := Sps P_law_web_stays u_law_web_stays tBool K
theorem ok_law_web_stays {fd : FuncData} (Z : Fre mg) (F : FunD K "_law_web_stays" "_law_web_stays" (defArgs s_law_web_stays) (defBody s_law_web_stays) (defScope s_law_web_stays) [] [] (He.fAd K ("_law_web_stays", none)) fd) (g : mg "_law_web_stays" = some (.ref (He.fAd K ("_law_web_stays", none))))  (D_Web : ClsF K "Web" ["rooms", "gains", "arcs"])  : Def Pr w K mg base 1 "_law_web_stays" ["made", "web"] [] (sp_law_web_stays K) := by
  refine ⟨_, fd, [], fn_body F sc_law_web_stays rfl (by decide) (fun X E B i e1 e2 e3 e4 e5 hW C => ?_), g, F.kp, F.bindsN (fun _ _ _ _ _ _ us hl => match us, hl with | [_, _], _ => rfl), .nil⟩
  subst e1 e2 e3 e4 e5
  obtain ⟨made, web, _⟩ := i
  show WS X E B [iS (tRec "Web" R_Web) made, iS (tL3 (tLst tInt) (tLst tInt) (tLst (tLst tInt))) web, .any, .any] [_] (m_law_web_stays made web) _
  rw [m_law_web_stays_eq]
  unfold b_law_web_stays
  exact ws_set C 2 (WE.cast (m' := ((mapO (fun arc1 => pure arc1) web.2.2) >>= fun t3 => pure t3) >>= fun t4 => pure (web.1, web.2.1, t4)) (we_l3 (we_tuple C Z (WE.rd (we_prj pl30 (we_var C 1)))) (we_tuple C Z (WE.rd (we_prj pl31 (we_var C 1)))) (we_tuple C Z (WO.rd (wo_lc C [("arc", 3)] (by decide +kernel) (WIg.s (WI.cast (m' := pure web.2.2) (wi_lst (we_prj pl32 (we_var C 1))) (by first | rfl | simp only [bind_as, pure_b]))) (ix := [3]) (by decide) (fun s_ H_ Cc_ cl_ fp_ C => (wg_name C 3)) (fun s_ H_ Cc_ cl_ fp_ arc1 C => WE.cast (m' := pure arc1) (we_tuple C Z (WE.rd (we_var C 3))) (by first | rfl | simp only [bind_as, pure_b])))))) (by first | rfl | simp only [bind_as, pure_b])) (fun due =>
ws_ret0 (WE.cast (m' := (reprO ((cL3 (cTup cInt) (cTup cInt) (cTup (cT3 cInt cInt cInt))).d (made.1, made.2.1, made.2.2))) >>= fun t5 => (reprO ((cL3 (cTup cInt) (cTup cInt) (cTup (cTup cInt))).d due)) >>= fun t6 => pure (decide (t5 = t6))) (we_eq eqs_str (we_repr C Z (d := (cL3 (cTup cInt) (cTup cInt) (cTup (cT3 cInt cInt cInt))).d) (dp_l3 (dp_tup dp_int) (dp_tup dp_int) (dp_tup (dp_t3 dp_int dp_int dp_int))).r (we_l3 (we_fld (T := (tTup tInt)) (R := R_Web) (g := fun (a : (List Int) × (List Int) × (List (Int × Int × Int))) => a.1) D_Web 0 (we_var C 0)) (we_fld (T := (tTup tInt)) (R := R_Web) (g := fun (a : (List Int) × (List Int) × (List (Int × Int × Int))) => a.2.1) D_Web 1 (we_var C 0)) (we_fld (T := (tTup (tT3 tInt tInt tInt))) (R := R_Web) (g := fun (a : (List Int) × (List Int) × (List (Int × Int × Int))) => a.2.2) D_Web 2 (we_var C 0)))) (we_repr C Z (d := (cL3 (cTup cInt) (cTup cInt) (cTup (cTup cInt))).d) (dp_l3 (dp_tup dp_int) (dp_tup dp_int) (dp_tup (dp_tup dp_int))).r (we_var C 2))) (by first | rfl | simp only [bind_as, pure_b])) (fun _ => rfl))
def b_law_asked (web : (List Int) × (List Int) × (List (Int × Int × Int))) (count : Int) (arcs : List (List Int)) (units : List Int) (listed : Bool) : Out Bool :=
(pure units) >>= fun passed =>
(pure listed) >>= fun c1 => if c1 = true then (
(pure units) >>= fun passed =>
(m_without_rings web passed) >>= fun told =>
((m_law_right count arcs units told) >>= fun t2 => pure (!t2)) >>= fun c3 => if c3 = true then (
pure false)
else (
(((m_law_has_ring count arcs units) >>= fun t4 => pure (!t4)) >>= fun t5 => if t5 = true then pure (!decide (told = units)) else pure false) >>= fun c6 => if c6 = true then (
pure false)
else (
(pure told) >>= fun left =>
(m_without_ringsT web told) >>= fun again =>
(((m_law_numbers again (arcs.length : Int)) >>= fun t7 => pure (!t7)) >>= fun t8 => if t8 = true then pure true else pure (!decide (again = left))) >>= fun c9 => if c9 = true then (
pure false)
else (
(m_without_rings web passed) >>= fun again =>
(m_law_numbers again (arcs.length : Int)) >>= fun t10 => if t10 = true then if (decide (again = left)) = true then pure (decide (passed = units)) else pure false else pure false))))
else (
(m_without_ringsT web passed) >>= fun told =>
((m_law_right count arcs units told) >>= fun t11 => pure (!t11)) >>= fun c12 => if c12 = true then (
pure false)
else (
(((m_law_has_ring count arcs units) >>= fun t13 => pure (!t13)) >>= fun t14 => if t14 = true then pure (!decide (told = units)) else pure false) >>= fun c15 => if c15 = true then (
pure false)
else (
(pure told) >>= fun left =>
(m_without_ringsT web told) >>= fun again =>
(((m_law_numbers again (arcs.length : Int)) >>= fun t16 => pure (!t16)) >>= fun t17 => if t17 = true then pure true else pure (!decide (again = left))) >>= fun c18 => if c18 = true then (
pure false)
else (
(m_without_ringsT web passed) >>= fun again =>
(m_law_numbers again (arcs.length : Int)) >>= fun t19 => if t19 = true then if (decide (again = left)) = true then pure (decide (passed = units)) else pure false else pure false))))
theorem x_law_asked : ∃ g : ((List Int) × (List Int) × (List (Int × Int × Int))) → Int → (List (List Int)) → (List Int) → Bool → Out Bool, g = b_law_asked := ⟨_, rfl⟩
def m_law_asked : ((List Int) × (List Int) × (List (Int × Int × Int))) → Int → (List (List Int)) → (List Int) → Bool → Out Bool := Classical.choose x_law_asked
theorem m_law_asked_eq : m_law_asked = b_law_asked := Classical.choose_spec x_law_asked
abbrev P_law_asked : Par (((List Int) × (List Int) × (List (Int × Int × Int))) × Int × (List (List Int)) × (List Int) × Bool × Unit) := (pC (tRec "Web" R_Web) (pC tInt (pC (tLst (tLst tInt)) (pC (tLst tInt) (pC tBool pN)))))
abbrev u_law_asked (i : ((List Int) × (List Int) × (List (Int × Int × Int))) × Int × (List (List Int)) × (List Int) × Bool × Unit) : Out Bool := m_law_asked i.1 i.2.1 i.2.2.1 i.2.2.2.1 i.2.2.2.2.1
theorem sc_law_asked : FnScope ["web", "count", "arcs", "units", "listed", "passed", "told", "left", "again"] ["web", "count", "arcs", "units", "listed"] (defScope s_law_asked) := ⟨rfl, rfl, rfl, by decide +kernel, rfl, by decide +kernel, by decide +kernel⟩
abbrev sp_law_asked (K : PySem.W.Frag) : Sp := Sps P_law_asked u_law_asked tBool K
theorem ok_law_asked {fd : FuncData} (Z : Fre mg) (F : FunD K "_law_asked" "_law_asked" (defArgs s_law_asked) (defBody s_law_asked) (defScope s_law_asked) [] [] (He.fAd K ("_law_asked", none)) fd) (g : mg "_law_asked" = some (.ref (He.fAd K ("_law_asked", none)))) (G_without_rings : Def Pr w K mg base 3 "without_rings" ["web", "units"] [] (sp_without_rings K)) (G_law_right : Def Pr w K mg base 3 "_law_right" ["count", "arcs", "units", "told"] [] (sp_law_right K)) (G_law_has_ring : Def Pr w K mg base 1 "_law_has_ring" ["count", "arcs", "units"] [] (sp_law_has_ring K)) (G_without_ringsT : Def Pr w K mg base 3 "without_rings" ["web", "units"] [] (sp_without_ringsT K)) (G_law_numbers : Def Pr w K mg base 2 "_law_numbers" ["told", "count"] [] (sp_law_numbers K))   : Def Pr w K mg base 4 "_law_asked" ["web", "count", "arcs", "units", "listed"] [] (sp_law_asked K) := by
  refine ⟨_, fd, [], fn_body F sc_law_asked rfl (by decide) (fun X E B i e1 e2 e3 e4 e5 hW C => ?_), g, F.kp, F.bindsN (fun _ _ _ _ _ _ us hl => match us, hl with | [_, _, _, _, _], _ => rfl), .nil⟩
  subst e1 e2 e3 e4 e5
  obtain ⟨web, count, arcs, units, listed, _⟩ := i
  show WS X E B [iS (tRec "Web" R_Web) web, iS tInt count, iS (tLst (tLst tInt)) arcs, iS (tLst tInt) units, iS tBool listed, .any, .any, .any, .any] [_] (m_law_asked web count arcs units listed) _
  rw [m_law_asked_eq]
  unfold b_law_asked
  exact ws_set C 5 (WE.cast (m' := pure units) (we_tuple C Z (WE.rd (we_var C 3))) (by first | rfl | simp only [bind_as, pure_b])) (fun passed =>
ws_if (WT.cast (m' := pure listed) (wt_val (we_var C 4)) (by first | rfl | simp only [bind_as, pure_b])) (
ws_set C 5 (WE.cast (m' := pure units) (WO.fz (wo_list C Z (WE.rd (we_var C 3))) (fz_lst _)) (by first | rfl | simp only [bind_as, pure_b])) (fun passed =>
ws_pop (ws_set C 6 (WE.cast (m' := m_without_rings web passed) (we_call C G_without_rings (by decide) (wa_cons (R := (tRec "Web" R_Web).rl) (we_var C 0) fun a0 => wa_cons (R := (tLst tInt).rl) (we_var C 5) fun a1 => wa_nil fun K F H s v1 r1 v0 r0 => ⟨(a0, a1, ()), rfl, v0, _, rfl, r0, v1, _, rfl, r1, rfl⟩)) (by first | (simp only [pure_b, bind_as]; done) | rfl)) (fun told =>
ws_if (WT.cast (m' := (m_law_right count arcs units told) >>= fun t2 => pure (!t2)) (wt_not (wt_val (we_call C G_law_right (by decide) (wa_cons (R := tInt.rl) (we_var C 1) fun a0 => wa_cons (R := (tLst (tLst tInt)).rl) (we_var C 2) fun a1 => wa_cons (R := (tLst tInt).rl) (we_var C 3) fun a2 => wa_cons (R := (tTup tInt).rl) (we_var C 6) fun a3 => wa_nil fun K F H s v3 r3 v2 r2 v1 r1 v0 r0 => ⟨(a0, a1, a2, a3, ()), rfl, v0, _, rfl, r0, v1, _, rfl, r1, v2, _, rfl, r2, v3, _, rfl, r3, rfl⟩)))) (by first | (simp only [pure_b, bind_as]; done) | rfl)) (
ws_ret0 (WE.cast (m' := pure false) we_bl (by first | rfl | simp only [bind_as, pure_b])) (fun _ => rfl)) (
ws_pop (ws_if (WT.cast (m' := ((m_law_has_ring count arcs units) >>= fun t4 => pure (!t4)) >>= fun t5 => if t5 = true then pure (!decide (told = units)) else pure false) (wt_b (wb_and (wt_not (wt_val (we_call C G_law_has_ring (by decide) (wa_cons (R := tInt.rl) (we_var C 1) fun a0 => wa_cons (R := (tLst (tLst tInt)).rl) (we_var C 2) fun a1 => wa_cons (R := (tLst tInt).rl) (we_var C 3) fun a2 => wa_nil fun K F H s v2 r2 v1 r1 v0 r0 => ⟨(a0, a1, a2, ()), rfl, v0, _, rfl, r0, v1, _, rfl, r1, v2, _, rfl, r2, rfl⟩)))) (wb_and1 (wt_neD C (cLst cInt) (dp_rl dp_int) (dp_lst dp_int).r (WO.rd (wo_listT C Z (we_var C 6))) (we_var C 3))))) (by first | (simp only [pure_b, bind_as]; done) | rfl)) (
ws_ret0 (WE.cast (m' := pure false) we_bl (by first | rfl | simp only [bind_as, pure_b])) (fun _ => rfl)) (
ws_pop (ws_set C 7 (WE.cast (m' := pure told) (WO.fz (wo_listT C Z (we_var C 6)) (fz_lst _)) (by first | rfl | simp only [bind_as, pure_b])) (fun left =>
ws_set C 8 (WE.cast (m' := m_without_ringsT web told) (we_call C G_without_ringsT (by decide) (wa_cons (R := (tRec "Web" R_Web).rl) (we_var C 0) fun a0 => wa_cons (R := (tTup tInt).rl) (we_var C 6) fun a1 => wa_nil fun K F H s v1 r1 v0 r0 => ⟨(a0, a1, ()), rfl, v0, _, rfl, r0, v1, _, rfl, r1, rfl⟩)) (by first | (simp only [pure_b, bind_as]; done) | rfl)) (fun again =>
ws_if (WT.cast (m' := ((m_law_numbers again (arcs.length : Int)) >>= fun t7 => pure (!t7)) >>= fun t8 => if t8 = true then pure true else pure (!decide (again = left))) (wt_b (wb_or (wt_not (wt_val (we_call C G_law_numbers (by decide) (wa_cons (R := (tTup tInt).rl) (we_var C 8) fun a0 => wa_cons (R := tInt.rl) (we_lenL C Z (WE.rd (we_var C 2))) fun a1 => wa_nil fun K F H s v1 r1 v0 r0 => ⟨(a0, a1, ()), rfl, v0, _, rfl, r0, v1, _, rfl, r1, rfl⟩)))) (wb_or1 (wt_neD C (cLst cInt) (dp_rl dp_int) (dp_lst dp_int).r (WO.rd (wo_listT C Z (we_var C 8))) (we_var C 7))))) (by first | (simp only [pure_b, bind_as]; done) | rfl)) (
ws_ret0 (WE.cast (m' := pure false) we_bl (by first | rfl | simp only [bind_as, pure_b])) (fun _ => rfl)) (
ws_pop (ws_set C 8 (WE.cast (m' := m_without_rings web passed) (we_call C G_without_rings (by decide) (wa_cons (R := (tRec "Web" R_Web).rl) (we_var C 0) fun a0 => wa_cons (R := (tLst tInt).rl) (we_var C 5) fun a1 => wa_nil fun K F H s v1 r1 v0 r0 => ⟨(a0, a1, ()), rfl, v0, _, rfl, r0, v1, _, rfl, r1, rfl⟩)) (by first | (simp only [pure_b, bind_as]; done) | rfl)) (fun again =>
ws_ret0 (WE.cast (m' := (m_law_numbers again (arcs.length : Int)) >>= fun t10 => if t10 = true then if (decide (again = left)) = true then pure (decide (passed = units)) else pure false else pure false) (we_and (we_call C G_law_numbers (by decide) (wa_cons (R := (tTup tInt).rl) (we_var C 8) fun a0 => wa_cons (R := tInt.rl) (we_lenL C Z (WE.rd (we_var C 2))) fun a1 => wa_nil fun K F H s v1 r1 v0 r0 => ⟨(a0, a1, ()), rfl, v0, _, rfl, r0, v1, _, rfl, r1, rfl⟩)) (we_and (we_eqD C (cLst cInt) (dp_rl dp_int) (dp_lst dp_int).r (WO.rd (wo_listT C Z (we_var C 8))) (we_var C 7)) (we_bo1 (we_eqD C (cLst cInt) (dp_rl dp_int) (dp_lst dp_int).r (WO.rd (wo_list C Z (WE.rd (we_var C 5)))) (we_var C 3))))) (by first | (simp only [pure_b, bind_as]; done) | rfl)) (fun _ => rfl)))))))))))))) (
ws_pop (ws_set C 6 (WE.cast (m' := m_without_ringsT web passed) (we_call C G_without_ringsT (by decide) (wa_cons (R := (tRec "Web" R_Web).rl) (we_var C 0) fun a0 => wa_cons (R := (tTup tInt).rl) (we_var C 5) fun a1 => wa_nil fun K F H s v1 r1 v0 r0 => ⟨(a0, a1, ()), rfl, v0, _, rfl, r0, v1, _, rfl, r1, rfl⟩)) (by first | (simp only [pure_b, bind_as]; done) | rfl)) (fun told =>
ws_if (WT.cast (m' := (m_law_right count arcs units told) >>= fun t11 => pure (!t11)) (wt_not (wt_val (we_call C G_law_right (by decide) (wa_cons (R := tInt.rl) (we_var C 1) fun a0 => wa_cons (R := (tLst (tLst tInt)).rl) (we_var C 2) fun a1 => wa_cons (R := (tLst tInt).rl) (we_var C 3) fun a2 => wa_cons (R := (tTup tInt).rl) (we_var C 6) fun a3 => wa_nil fun K F H s v3 r3 v2 r2 v1 r1 v0 r0 => ⟨(a0, a1, a2, a3, ()), rfl, v0, _, rfl, r0, v1, _, rfl, r1, v2, _, rfl, r2, v3, _, rfl, r3, rfl⟩)))) (by first | (simp only [pure_b, bind_as]; done) | rfl)) (
ws_ret0 (WE.cast (m' := pure false) we_bl (by first | rfl | simp only [bind_as, pure_b])) (fun _ => rfl)) (
ws_pop (ws_if (WT.cast (m' := ((m_law_has_ring count arcs units) >>= fun t13 => pure (!t13)) >>= fun t14 => if t14 = true then pure (!decide (told = units)) else pure false) (wt_b (wb_and (wt_not (wt_val (we_call C G_law_has_ring (by decide) (wa_cons (R := tInt.rl) (we_var C 1) fun a0 => wa_cons (R := (tLst (tLst tInt)).rl) (we_var C 2) fun a1 => wa_cons (R := (tLst tInt).rl) (we_var C 3) fun a2 => wa_nil fun K F H s v2 r2 v1 r1 v0 r0 => ⟨(a0, a1, a2, ()), rfl, v0, _, rfl, r0, v1, _, rfl, r1, v2, _, rfl, r2, rfl⟩)))) (wb_and1 (wt_neD C (cLst cInt) (dp_rl dp_int) (dp_lst dp_int).r (WO.rd (wo_listT C Z (we_var C 6))) (we_var C 3))))) (by first | (simp only [pure_b, bind_as]; done) | rfl)) (
ws_ret0 (WE.cast (m' := pure false) we_bl (by first | rfl | simp only [bind_as, pure_b])) (fun _ => rfl)) (
ws_pop (ws_set C 7 (WE.cast (m' := pure told) (WO.fz (wo_listT C Z (we_var C 6)) (fz_lst _)) (by first | rfl | simp only [bind_as, pure_b])) (fun left =>
ws_set C 8 (WE.cast (m' := m_without_ringsT web told) (we_call C G_without_ringsT (by decide) (wa_cons (R := (tRec "Web" R_Web).rl) (we_var C 0) fun a0 => wa_cons (R := (tTup tInt).rl) (we_var C 6) fun a1 => wa_nil fun K F H s v1 r1 v0 r0 => ⟨(a0, a1, ()), rfl, v0, _, rfl, r0, v1, _, rfl, r1, rfl⟩)) (by first | (simp only [pure_b, bind_as]; done) | rfl)) (fun again =>
ws_if (WT.cast (m' := ((m_law_numbers again (arcs.length : Int)) >>= fun t16 => pure (!t16)) >>= fun t17 => if t17 = true then pure true else pure (!decide (again = left))) (wt_b (wb_or (wt_not (wt_val (we_call C G_law_numbers (by decide) (wa_cons (R := (tTup tInt).rl) (we_var C 8) fun a0 => wa_cons (R := tInt.rl) (we_lenL C Z (WE.rd (we_var C 2))) fun a1 => wa_nil fun K F H s v1 r1 v0 r0 => ⟨(a0, a1, ()), rfl, v0, _, rfl, r0, v1, _, rfl, r1, rfl⟩)))) (wb_or1 (wt_neD C (cLst cInt) (dp_rl dp_int) (dp_lst dp_int).r (WO.rd (wo_listT C Z (we_var C 8))) (we_var C 7))))) (by first | (simp only [pure_b, bind_as]; done) | rfl)) (
ws_ret0 (WE.cast (m' := pure false) we_bl (by first | rfl | simp only [bind_as, pure_b])) (fun _ => rfl)) (
ws_pop (ws_set C 8 (WE.cast (m' := m_without_ringsT web passed) (we_call C G_without_ringsT (by decide) (wa_cons (R := (tRec "Web" R_Web).rl) (we_var C 0) fun a0 => wa_cons (R := (tTup tInt).rl) (we_var C 5) fun a1 => wa_nil fun K F H s v1 r1 v0 r0 => ⟨(a0, a1, ()), rfl, v0, _, rfl, r0, v1, _, rfl, r1, rfl⟩)) (by first | (simp only [pure_b, bind_as]; done) | rfl)) (fun again =>
ws_ret0 (WE.cast (m' := (m_law_numbers again (arcs.length : Int)) >>= fun t19 => if t19 = true then if (decide (again = left)) = true then pure (decide (passed = units)) else pure false else pure false) (we_and (we_call C G_law_numbers (by decide) (wa_cons (R := (tTup tInt).rl) (we_var C 8) fun a0 => wa_cons (R := tInt.rl) (we_lenL C Z (WE.rd (we_var C 2))) fun a1 => wa_nil fun K F H s v1 r1 v0 r0 => ⟨(a0, a1, ()), rfl, v0, _, rfl, r0, v1, _, rfl, r1, rfl⟩)) (we_and (we_eqD C (cLst cInt) (dp_rl dp_int) (dp_lst dp_int).r (WO.rd (wo_listT C Z (we_var C 8))) (we_var C 7)) (we_bo1 (we_eqD C (cLst cInt) (dp_rl dp_int) (dp_lst dp_int).r (WO.rd (wo_listT C Z (we_var C 5))) (we_var C 3))))) (by first | (simp only [pure_b, bind_as]; done) | rfl)) (fun _ => rfl))))))))))))))
def b_law_long_right (part : List Int) : Out Bool :=
((idx part 2) >>= fun t1 => idx [1, 3, 5, 7, 9, 37] t1) >>= fun step =>
((pure (upto 38)) >>= fun xs6 => mapO (fun k2 => (((mulO k2 step) >>= fun t3 => pure t3) >>= fun t4 => pure (t4 % 38)) >>= fun t5 => pure (2 + t5)) xs6) >>= fun nodes =>
((catO [0] nodes) >>= fun t7 => catO t7 [1]) >>= fun walk =>
((mapO (fun k8 => (idx walk k8) >>= fun t9 => (idx walk (k8 + 1)) >>= fun t10 => pure [t9, t10, 0]) (upto 39)) >>= fun t15 => (((idx nodes 37) >>= fun t12 => (idx nodes 0) >>= fun t13 => pure [t12, t13, 0]) >>= fun t14 => pure [t14]) >>= fun t16 => catO t15 t16) >>= fun arcs =>
((((idx part 1) >>= fun t17 => pure [t17]) >>= fun t22 => ((((idx part 0) >>= fun t18 => (idx part 1) >>= fun t19 => pure (t18 + t19)) >>= fun t20 => pure [t20]) >>= fun t21 => repO t21 37) >>= fun t23 => catO t22 t23) >>= fun t26 => ((idx part 1) >>= fun t24 => (idx part 0) >>= fun t25 => pure [t24, t25]) >>= fun t27 => catO t26 t27) >>= fun units =>
((((idx part 1) >>= fun t28 => pure [t28]) >>= fun t29 => repO t29 39) >>= fun t30 => catO t30 [0]) >>= fun due =>
(((idx part 3) >>= fun t31 => pure (decide (t31 = 1))) >>= fun c32 => if c32 = true then (
(pure arcs.reverse) >>= fun arcs =>
(pure units.reverse) >>= fun units =>
(pure due.reverse) >>= fun due =>
pure (arcs, units, due))
else (
pure (arcs, units, due))) >>= fun s33 =>
((mapO (fun k34 => pure 400) (upto 40)) >>= fun t41 => (mapO (fun k36 => pure 0) (upto 40)) >>= fun t42 => ((mapO (fun arc38 => pure arc38) s33.1) >>= fun t40 => pure ((cLst (cLst cInt)).d t40)) >>= fun t43 => m_Web___init__ t41 t42 t43) >>= fun web =>
(m_without_ringsT web s33.2.1) >>= fun told =>
(m_law_numbers told 40) >>= fun t44 => if t44 = true then pure (decide (told = s33.2.2)) else pure false
theorem x_law_long_right : ∃ g : (List Int) → Out Bool, g = b_law_long_right := ⟨_, rfl⟩
def m_law_long_right : (List Int) → Out Bool := Classical.choose x_law_long_right
theorem m_law_long_right_eq : m_law_long_right = b_law_long_right := Classical.choose_spec x_law_long_right
abbrev P_law_long_right : Par ((List Int) × Unit) := (pC (tLst tInt) pN)
abbrev u_law_long_right (i : (List Int) × Unit) : Out Bool := m_law_long_right i.1
theorem sc_law_long_right : FnScope ["part", "step", "nodes", "walk", "arcs", "units", "due", "web", "told", "k", "arc"] ["part"] (defScope s_law_long_right) := ⟨rfl, rfl, rfl, by decide +kernel, rfl, by decide +kernel, by decide +kernel⟩
abbrev sp_law_long_right (K : PySem.W.Frag) : Sp := Sps P_law_long_right u_law_long_right tBool K
theorem ok_law_long_right {fd : FuncData} (Z : Fre mg) (F : FunD K "_law_long_right" "_law_long_right" (defArgs s_law_long_right) (defBody s_law_long_right) (defScope s_law_long_right) [] [] (He.fAd K ("_law_long_right", none)) fd) (g : mg "_law_long_right" = some (.ref (He.fAd K ("_law_long_right", none)))) (G_Web___init__ : MkD Pr w K mg base 10 "Web" ["self", "rooms", "gains", "arcs"] [] (sp_Web___init__ K)) (G_without_ringsT : Def Pr w K mg base 3 "without_rings" ["web", "units"] [] (sp_without_ringsT K)) (G_law_numbers : Def Pr w K mg base 2 "_law_numbers" ["told", "count"] [] (sp_law_numbers K)) (D_Web : ClsF K "Web" ["rooms", "gains", "arcs"])  : Def Pr w K mg base 12 "_law_long_right" ["part"] [] (sp_law_long_right K) := by
  refine ⟨_, fd, [], fn_body F sc_law_long_right rfl (by decide) (fun X E B i e1 e2 e3 e4 e5 hW C => ?_), g, F.kp, F.bindsN (fun _ _ _ _ _ _ us hl => match us, hl with | [_], _ => rfl), .nil⟩
  subst e1 e2 e3 e4 e5
  obtain ⟨part, _⟩ := i
  show WS X E B [iS (tLst tInt) part, .any, .any, .any, .any, .any, .any, .any, .any, .any, .any] [_] (m_law_long_right part) _
  rw [m_law_long_right_eq]
  unfold b_law_long_right
  exact ws_set C 1 (WE.cast (m' := (idx part 2) >>= fun t1 => idx [1, 3, 5, 7, 9, 37] t1) (we_ixL (WO.rd (wo_lst (wal_cons we_int (wal_cons we_int (wal_cons we_int (wal_cons we_int (wal_cons we_int (wal_cons we_int wal_nil)))))))) (we_ixL (WE.rd (we_var C 0)) we_int)) (by first | rfl | simp only [bind_as, pure_b])) (fun step =>
ws_lc (f := _) C 2 [("k", 9)] (by decide +kernel) (WIg.s (WI.cast (m' := pure (upto 38)) (WI.cast (wi_range C Z we_int) rfl) (by first | rfl | simp only [bind_as, pure_b]))) (ix := [9]) (by decide) (fun s_ H_ Cc_ cl_ fp_ C => (wg_name C 9)) (fun s_ H_ Cc_ cl_ fp_ k2 C => WE.cast (m' := (((mulO k2 step) >>= fun t3 => pure t3) >>= fun t4 => pure (t4 % 38)) >>= fun t5 => pure (2 + t5)) (we_add we_int (we_modR (we_intI C Z (we_mul (we_var C 9) (we_var C 1))) we_int)) (by first | rfl | simp only [bind_as, pure_b])) (fun nodes => ws_fz 2 (fz_lst _) hW rfl (
ws_set C 3 (WE.cast (m' := (catO [0] nodes) >>= fun t7 => catO t7 [1]) (WO.fz (wo_cat (WO.rh (wo_cat (WO.rh (wo_lst (wal_cons we_int wal_nil))) (WE.rh (we_var C 2)))) (WO.rh (wo_lst (wal_cons we_int wal_nil)))) (fz_lst _)) (by first | rfl | simp only [bind_as, pure_b])) (fun walk =>
ws_set C 4 (WE.cast (m' := (mapO (fun k8 => (idx walk k8) >>= fun t9 => (idx walk (k8 + 1)) >>= fun t10 => pure [t9, t10, 0]) (upto 39)) >>= fun t15 => (((idx nodes 37) >>= fun t12 => (idx nodes 0) >>= fun t13 => pure [t12, t13, 0]) >>= fun t14 => pure [t14]) >>= fun t16 => catO t15 t16) (WO.fz (wo_cat (WO.rh (wo_lc C [("k", 9)] (by decide +kernel) (WIg.s (WI.cast (m' := pure (upto 39)) (WI.cast (wi_range C Z we_int) rfl) (by first | rfl | simp only [bind_as, pure_b]))) (ix := [9]) (by decide) (fun s_ H_ Cc_ cl_ fp_ C => (wg_name C 9)) (fun s_ H_ Cc_ cl_ fp_ k8 C => WE.cast (m' := (idx walk k8) >>= fun t9 => (idx walk (k8 + 1)) >>= fun t10 => pure [t9, t10, 0]) (WO.fz (wo_lst (wal_cons (WE.cast (m' := idx walk k8) (we_ixL (WE.rd (we_var C 3)) (we_var C 9)) (by first | rfl | simp only [bind_as, pure_b])) (wal_cons (WE.cast (m' := idx walk (k8 + 1)) (we_ixL (WE.rd (we_var C 3)) (we_add (we_var C 9) we_int)) (by first | rfl | simp only [bind_as, pure_b])) (wal_cons we_int wal_nil)))) (fz_lst _)) (by first | rfl | simp only [bind_as, pure_b])))) (WO.rh (wo_lst (wal_cons (WE.cast (m' := (idx nodes 37) >>= fun t12 => (idx nodes 0) >>= fun t13 => pure [t12, t13, 0]) (WO.fz (wo_lst (wal_cons (WE.cast (m' := idx nodes 37) (we_ixL (WE.rd (we_var C 2)) we_int) (by first | rfl | simp only [bind_as, pure_b])) (wal_cons (WE.cast (m' := idx nodes 0) (we_ixL (WE.rd (we_var C 2)) we_int) (by first | rfl | simp only [bind_as, pure_b])) (wal_cons we_int wal_nil)))) (fz_lst _)) (by first | rfl | simp only [bind_as, pure_b])) wal_nil)))) (fz_lst _)) (by first | rfl | simp only [bind_as, pure_b])) (fun arcs =>
ws_set C 5 (WE.cast (m' := (((idx part 1) >>= fun t17 => pure [t17]) >>= fun t22 => ((((idx part 0) >>= fun t18 => (idx part 1) >>= fun t19 => pure (t18 + t19)) >>= fun t20 => pure [t20]) >>= fun t21 => repO t21 37) >>= fun t23 => catO t22 t23) >>= fun t26 => ((idx part 1) >>= fun t24 => (idx part 0) >>= fun t25 => pure [t24, t25]) >>= fun t27 => catO t26 t27) (WO.fz (wo_cat (WO.rh (wo_cat (WO.rh (wo_lst (wal_cons (WE.cast (m' := idx part 1) (we_ixL (WE.rd (we_var C 0)) we_int) (by first | rfl | simp only [bind_as, pure_b])) wal_nil))) (WO.rh (wo_rep (WO.rh (wo_lst (wal_cons (WE.cast (m' := (idx part 0) >>= fun t18 => (idx part 1) >>= fun t19 => pure (t18 + t19)) (we_add (we_ixL (WE.rd (we_var C 0)) we_int) (we_ixL (WE.rd (we_var C 0)) we_int)) (by first | rfl | simp only [bind_as, pure_b])) wal_nil))) we_int)))) (WO.rh (wo_lst (wal_cons (WE.cast (m' := idx part 1) (we_ixL (WE.rd (we_var C 0)) we_int) (by first | rfl | simp only [bind_as, pure_b])) (wal_cons (WE.cast (m' := idx part 0) (we_ixL (WE.rd (we_var C 0)) we_int) (by first | rfl | simp only [bind_as, pure_b])) wal_nil))))) (fz_lst _)) (by first | rfl | simp only [bind_as, pure_b])) (fun units =>
ws_set C 6 (WE.cast (m' := (((idx part 1) >>= fun t28 => pure [t28]) >>= fun t29 => repO t29 39) >>= fun t30 => catO t30 [0]) (WO.fz (wo_cat (WO.rh (wo_rep (WO.rh (wo_lst (wal_cons (WE.cast (m' := idx part 1) (we_ixL (WE.rd (we_var C 0)) we_int) (by first | rfl | simp only [bind_as, pure_b])) wal_nil))) we_int)) (WO.rh (wo_lst (wal_cons we_int wal_nil)))) (fz_lst _)) (by first | rfl | simp only [bind_as, pure_b])) (fun due =>
ws_seq (Δ := (fun (s33 : (List (List Int)) × (List Int) × (List Int)) => [iS (tLst tInt) part, iS tInt step, iS (tLst tInt) nodes, iS (tLst tInt) walk, iS (tLst (tLst tInt)) s33.1, iS (tLst tInt) s33.2.1, iS (tLst tInt) s33.2.2, .any, .any, .any, .any])) (w1_if (WT.cast (m' := (idx part 3) >>= fun t31 => pure (decide (t31 = 1))) (wt_eq eqs_int (we_ixL (WE.rd (we_var C 0)) we_int) we_int) (by first | rfl | simp only [bind_as, pure_b])) (
ws_set C 4 (WE.cast (m' := pure arcs.reverse) (WO.fz (wo_rev (WE.rd (we_var C 4))) (fz_lst _)) (by first | rfl | simp only [bind_as, pure_b])) (fun arcs =>
ws_set C 5 (WE.cast (m' := pure units.reverse) (WO.fz (wo_rev (WE.rd (we_var C 5))) (fz_lst _)) (by first | rfl | simp only [bind_as, pure_b])) (fun units =>
ws_set C 6 (WE.cast (m' := pure due.reverse) (WO.fz (wo_rev (WE.rd (we_var C 6))) (fz_lst _)) (by first | rfl | simp only [bind_as, pure_b])) (fun due =>
ws_fin rfl (Weak.same (Weak.same (Weak.same (Weak.same (Weak.same (Weak.same (Weak.same (Weak.same (Weak.same (Weak.same (Weak.same Weak.nil))))))))))))))) (
ws_fin rfl (Weak.same (Weak.same (Weak.same (Weak.same (Weak.same (Weak.same (Weak.same (Weak.same (Weak.same (Weak.same (Weak.same Weak.nil))))))))))))) (fun s33 =>
ws_set C 7 (WE.cast (m' := (mapO (fun k34 => pure 400) (upto 40)) >>= fun t41 => (mapO (fun k36 => pure 0) (upto 40)) >>= fun t42 => ((mapO (fun arc38 => pure arc38) s33.1) >>= fun t40 => pure ((cLst (cLst cInt)).d t40)) >>= fun t43 => m_Web___init__ t41 t42 t43) (we_make C G_Web___init__ (by decide) (wa_cons (R := (tLst tInt).rl) (WE.cast (m' := mapO (fun k34 => pure 400) (upto 40)) (WO.fz (wo_lc C [("k", 9)] (by decide +kernel) (WIg.s (WI.cast (m' := pure (upto 40)) (WI.cast (wi_range C Z we_int) rfl) (by first | rfl | simp only [bind_as, pure_b]))) (ix := [9]) (by decide) (fun s_ H_ Cc_ cl_ fp_ C => (wg_name C 9)) (fun s_ H_ Cc_ cl_ fp_ k34 C => WE.cast (m' := pure 400) we_int (by first | rfl | simp only [bind_as, pure_b]))) (fz_lst _)) (by first | rfl | simp only [bind_as, pure_b])) fun a0 => wa_cons (R := (tLst tInt).rl) (WE.cast (m' := mapO (fun k36 => pure 0) (upto 40)) (WO.fz (wo_lc C [("k", 9)] (by decide +kernel) (WIg.s (WI.cast (m' := pure (upto 40)) (WI.cast (wi_range C Z we_int) rfl) (by first | rfl | simp only [bind_as, pure_b]))) (ix := [9]) (by decide) (fun s_ H_ Cc_ cl_ fp_ C => (wg_name C 9)) (fun s_ H_ Cc_ cl_ fp_ k36 C => WE.cast (m' := pure 0) we_int (by first | rfl | simp only [bind_as, pure_b]))) (fz_lst _)) (by first | rfl | simp only [bind_as, pure_b])) fun a1 => wa_cons (R := tD.rl) (WE.cast (m' := (mapO (fun arc38 => pure arc38) s33.1) >>= fun t40 => pure ((cLst (cLst cInt)).d t40)) (WE.map (R := (tLst (tLst tInt)).rl) (S := tD.rl) (WO.fz (wo_lc C [("arc", 10)] (by decide +kernel) (WIg.s (WI.cast (m' := pure s33.1) (wi_lst (we_var C 4)) (by first | rfl | simp only [bind_as, pure_b]))) (ix := [10]) (by decide) (fun s_ H_ Cc_ cl_ fp_ C => (wg_name C 10)) (fun s_ H_ Cc_ cl_ fp_ arc38 C => WE.cast (m' := pure arc38) (WO.fz (wo_list C Z (WE.rd (we_var C 10))) (fz_lst _)) (by first | rfl | simp only [bind_as, pure_b]))) (fz_lst _)) (cLst (cLst cInt)).d (fun K F H v a _ h => (dp_lst (dp_lst dp_int)) K F v a h)) (by first | rfl | simp only [bind_as, pure_b])) fun a2 => wa_nil fun K F H s v2 r2 v1 r1 v0 r0 => ⟨(a0, a1, a2, ()), rfl, v0, _, rfl, r0, v1, _, rfl, r1, v2, _, rfl, r2, rfl⟩)) (by first | (simp only [pure_b, bind_as]; done) | rfl)) (fun web =>
ws_set C 8 (WE.cast (m' := m_without_ringsT web s33.2.1) (we_call C G_without_ringsT (by decide) (wa_cons (R := (tRec "Web" R_Web).rl) (we_var C 7) fun a0 => wa_cons (R := (tTup tInt).rl) (we_tuple C Z (WE.rd (we_var C 5))) fun a1 => wa_nil fun K F H s v1 r1 v0 r0 => ⟨(a0, a1, ()), rfl, v0, _, rfl, r0, v1, _, rfl, r1, rfl⟩)) (by first | (simp only [pure_b, bind_as]; done) | rfl)) (fun told =>
ws_ret0 (WE.cast (m' := (m_law_numbers told 40) >>= fun t44 => if t44 = true then pure (decide (told = s33.2.2)) else pure false) (we_and (we_call C G_law_numbers (by decide) (wa_cons (R := (tTup tInt).rl) (we_var C 8) fun a0 => wa_cons (R := tInt.rl) we_int fun a1 => wa_nil fun K F H s v1 r1 v0 r0 => ⟨(a0, a1, ()), rfl, v0, _, rfl, r0, v1, _, rfl, r1, rfl⟩)) (we_bo1 (we_eqD C (cLst cInt) (dp_rl dp_int) (dp_lst dp_int).r (WO.rd (wo_listT C Z (we_var C 8))) (we_var C 6)))) (by first | (simp only [pure_b, bind_as]; done) | rfl)) (fun _ => rfl)))))))))))
def b_law_large_right (script : List Int) : Out Bool :=
(pure ([] : List (List Int))) >>= fun arcs =>
(pure ([] : List Int)) >>= fun units =>
((pure (upto 4)) >>= fun xs12 => forO (fun (s1 : (List (List Int)) × (List Int)) (x2 : Int) =>
((m_law_cell script (2 + x2)) >>= fun t3 => (repO [39, 39, 6] 50) >>= fun t4 => m_law_digits t3 t4) >>= fun row =>
((pure (upto 50)) >>= fun xs10 => forO (fun (s5 : (List (List Int)) × (List Int)) (x6 : Int) =>
(idx row (3 * x6)) >>= fun tail =>
(idx row ((3 * x6) + 1)) >>= fun head =>
(if (!decide (tail = head)) = true then pure true else pure (decide (tail = 0))) >>= fun c7 => if c7 = true then (
(pure [tail + (if decide (0 < tail) = true then 1 else 0), head + 1]) >>= fun a8 => appO s5.1 a8 >>= fun arcs =>
(idx row ((3 * x6) + 2)) >>= fun a9 => appO s5.2 a9 >>= fun units =>
pure (arcs, units))
else (
pure (s5.1, s5.2))) xs10 (s1.1, s1.2)) >>= fun s11 =>
pure (s11.1, s11.2)) xs12 (arcs, units)) >>= fun s13 =>
((mapO (fun k14 => pure 400) (upto 40)) >>= fun t23 => (mapO (fun k16 => pure 0) (upto 40)) >>= fun t24 => ((mapO (fun arc18 => (idx arc18 0) >>= fun t19 => (idx arc18 1) >>= fun t20 => pure [t19, t20, 0]) s13.1) >>= fun t22 => pure ((cLst (cLst cInt)).d t22)) >>= fun t25 => m_Web___init__ t23 t24 t25) >>= fun web =>
(pure s13.2) >>= fun passed =>
(m_without_rings web passed) >>= fun told =>
if (decide (passed = s13.2)) = true then m_law_right 40 s13.1 s13.2 told else pure false
theorem x_law_large_right : ∃ g : (List Int) → Out Bool, g = b_law_large_right := ⟨_, rfl⟩
def m_law_large_right : (List Int) → Out Bool := Classical.choose x_law_large_right
theorem m_law_large_right_eq : m_law_large_right = b_law_large_right := Classical.choose_spec x_law_large_right
abbrev P_law_large_right : Par ((List Int) × Unit) := (pC (tLstQ tInt) pN)
abbrev u_law_large_right (i : (List Int) × Unit) : Out Bool := m_law_large_right i.1
theorem sc_law_large_right : FnScope ["script", "arcs", "units", "part", "row", "k", "tail", "head", "web", "passed", "told", "arc"] ["script"] (defScope s_law_large_right) := ⟨rfl, rfl, rfl, by decide +kernel, rfl, by decide +kernel, by decide +kernel⟩
abbrev sp_law_large_right (K : PySem.W.Frag) : Sp := Sps P_law_large_right u_law_large_right tBool K
theorem ok_law_large_right {fd : FuncData} (Z : Fre mg) (F : FunD K "_law_large_right" "_law_large_right" (defArgs s_law_large_right) (defBody s_law_large_right) (defScope s_law_large_right) [] [] (He.fAd K ("_law_large_right", none)) fd) (g : mg "_law_large_right" = some (.ref (He.fAd K ("_law_large_right", none)))) (G_law_cell : Def Pr w K mg base 1 "_law_cell" ["script", "k"] [] (sp_law_cell K)) (G_law_digits : Def Pr w K mg base 1 "_law_digits" ["cell", "sizes"] [] (sp_law_digits K)) (G_Web___init__ : MkD Pr w K mg base 10 "Web" ["self", "rooms", "gains", "arcs"] [] (sp_Web___init__ K)) (G_without_rings : Def Pr w K mg base 3 "without_rings" ["web", "units"] [] (sp_without_rings K)) (G_law_right : Def Pr w K mg base 3 "_law_right" ["count", "arcs", "units", "told"] [] (sp_law_right K)) (D_Web : ClsF K "Web" ["rooms", "gains", "arcs"])  : Def Pr w K mg base 12 "_law_large_right" ["script"] [] (sp_law_large_right K) := by
  refine ⟨_, fd, [], fn_body F sc_law_large_right rfl (by decide) (fun X E B i e1 e2 e3 e4 e5 hW C => ?_), g, F.kp, F.bindsN (fun _ _ _ _ _ _ us hl => match us, hl with | [_], _ => rfl), .nil⟩
  subst e1 e2 e3 e4 e5
  obtain ⟨script, _⟩ := i
  show WS X E B [iS (tLstQ tInt) script, .any, .any, .any, .any, .any, .any, .any, .any, .any, .any, .any] [_] (m_law_large_right script) _
  rw [m_law_large_right_eq]
  unfold b_law_large_right
  exact ws_setO C 1 (WO.cast (m' := pure ([] : List (List Int))) (wo_lst (wal_nil (T := (tLst tInt)))) (by first | rfl | simp only [bind_as, pure_b])) (fun arcs =>
ws_setO C 2 (WO.cast (m' := pure ([] : List Int)) (wo_lst (wal_nil (T := tInt))) (by first | rfl | simp only [bind_as, pure_b])) (fun units =>
ws_seq (Δ := (fun (s1 : (List (List Int)) × (List Int)) => [iS (tLstQ tInt) script, .on _ (oLst (tLst tInt)) s1.1, .on _ (oLst tInt) s1.2, .any, .any, .any, .any, .any, .any, .any, .any, .any])) (w1_for C (WI.cast (m' := pure (upto 4)) (WI.cast (wi_range C Z we_int) rfl) (by first | rfl | simp only [bind_as, pure_b])) (wg_name C 3) (Δ := (fun (s1 : (List (List Int)) × (List Int)) => [iS (tLstQ tInt) script, .on _ (oLst (tLst tInt)) s1.1, .on _ (oLst tInt) s1.2, .any, .any, .any, .any, .any, .any, .any, .any, .any])) (s0 := (arcs, units)) (Weak.same (Weak.same (Weak.same (Weak.same (Weak.same (Weak.same (Weak.same (Weak.same (Weak.same (Weak.same (Weak.same (Weak.same Weak.nil)))))))))))) (by exact (fun s1 x2 =>
ws_set C 4 (WE.cast (m' := (m_law_cell script (2 + x2)) >>= fun t3 => (repO [39, 39, 6] 50) >>= fun t4 => m_law_digits t3 t4) (WO.fz (wo_call C G_law_digits (by decide) (wa_cons (R := tInt.rl) (WE.cast (m' := m_law_cell script (2 + x2)) (we_call C G_law_cell (by decide) (wa_cons (R := (tLstQ tInt).rl) (we_var C 0) fun a0 => wa_cons (R := tInt.rl) (we_add we_int (we_var C 3)) fun a1 => wa_nil fun K F H s v1 r1 v0 r0 => ⟨(a0, a1, ()), rfl, v0, _, rfl, r0, v1, _, rfl, r1, rfl⟩)) (by first | (simp only [pure_b, bind_as]; done) | rfl)) fun a0 => wa_cons (R := (tLst tInt).rl) (WE.cast (m' := repO [39, 39, 6] 50) (WO.fz (wo_rep (WO.rh (wo_lst (wal_cons we_int (wal_cons we_int (wal_cons we_int wal_nil))))) we_int) (fz_lst _)) (by first | rfl | simp only [bind_as, pure_b])) fun a1 => wa_nil fun K F H s v1 r1 v0 r0 => ⟨(a0, a1, ()), rfl, v0, _, rfl, r0, v1, _, rfl, r1, rfl⟩)) (fz_lst _)) (by first | (simp only [pure_b, bind_as]; done) | rfl)) (fun row =>
ws_seq (Δ := (fun (s5 : (List (List Int)) × (List Int)) => [iS (tLstQ tInt) script, .on _ (oLst (tLst tInt)) s5.1, .on _ (oLst tInt) s5.2, iS tInt x2, iS (tLst tInt) row, .any, .any, .any, .any, .any, .any, .any])) (w1_for C (WI.cast (m' := pure (upto 50)) (WI.cast (wi_range C Z we_int) rfl) (by first | rfl | simp only [bind_as, pure_b])) (wg_name C 5) (Δ := (fun (s5 : (List (List Int)) × (List Int)) => [iS (tLstQ tInt) script, .on _ (oLst (tLst tInt)) s5.1, .on _ (oLst tInt) s5.2, iS tInt x2, iS (tLst tInt) row, .any, .any, .any, .any, .any, .any, .any])) (s0 := (s1.1, s1.2)) (Weak.same (Weak.same (Weak.same (Weak.same (Weak.same (Weak.same (Weak.same (Weak.same (Weak.same (Weak.same (Weak.same (Weak.same Weak.nil)))))))))))) (by exact (fun s5 x6 =>
ws_set C 6 (WE.cast (m' := idx row (3 * x6)) (we_ixL (WE.rd (we_var C 4)) (we_mulL we_int (we_var C 5))) (by first | rfl | simp only [bind_as, pure_b])) (fun tail =>
ws_set C 7 (WE.cast (m' := idx row ((3 * x6) + 1)) (we_ixL (WE.rd (we_var C 4)) (we_add (we_mulL we_int (we_var C 5)) we_int)) (by first | rfl | simp only [bind_as, pure_b])) (fun head =>
ws_if (WT.cast (m' := if (!decide (tail = head)) = true then pure true else pure (decide (tail = 0))) (wt_b (wb_or (wt_ne eqs_int (we_var C 6) (we_var C 7)) (wb_or1 (wt_eq eqs_int (we_var C 6) we_int)))) (by first | rfl | simp only [bind_as, pure_b])) (
ws_app C 1 (WE.cast (m' := pure [tail + (if decide (0 < tail) = true then 1 else 0), head + 1]) (WO.fz (wo_lst (wal_cons (we_add (we_var C 6) (we_intB C Z (we_gt (we_var C 6) we_int))) (wal_cons (we_add (we_var C 7) we_int) wal_nil))) (fz_lst _)) (by first | rfl | simp only [bind_as, pure_b])) (fun arcs =>
ws_app C 2 (WE.cast (m' := idx row ((3 * x6) + 2)) (we_ixL (WE.rd (we_var C 4)) (we_add (we_mulL we_int (we_var C 5)) we_int)) (by first | rfl | simp only [bind_as, pure_b])) (fun units =>
ws_pop (ws_fin rfl (Weak.same (Weak.same (Weak.same (Weak.same (Weak.same (Weak.any (Weak.any (Weak.any (Weak.same (Weak.same (Weak.same (Weak.same Weak.nil)))))))))))))))) (
ws_pop (ws_fin rfl (Weak.same (Weak.same (Weak.same (Weak.same (Weak.same (Weak.any (Weak.any (Weak.any (Weak.same (Weak.same (Weak.same (Weak.same Weak.nil))))))))))))))))))) (fun s11 =>
ws_fin rfl (Weak.same (Weak.same (Weak.same (Weak.any (Weak.any (Weak.same (Weak.same (Weak.same (Weak.same (Weak.same (Weak.same (Weak.same Weak.nil))))))))))))))))) (fun s13 =>
ws_fz 1 (fz_lst _) hW rfl (
ws_set C 8 (WE.cast (m' := (mapO (fun k14 => pure 400) (upto 40)) >>= fun t23 => (mapO (fun k16 => pure 0) (upto 40)) >>= fun t24 => ((mapO (fun arc18 => (idx arc18 0) >>= fun t19 => (idx arc18 1) >>= fun t20 => pure [t19, t20, 0]) s13.1) >>= fun t22 => pure ((cLst (cLst cInt)).d t22)) >>= fun t25 => m_Web___init__ t23 t24 t25) (we_make C G_Web___init__ (by decide) (wa_cons (R := (tLst tInt).rl) (WE.cast (m' := mapO (fun k14 => pure 400) (upto 40)) (WO.fz (wo_lc C [("k", 5)] (by decide +kernel) (WIg.s (WI.cast (m' := pure (upto 40)) (WI.cast (wi_range C Z we_int) rfl) (by first | rfl | simp only [bind_as, pure_b]))) (ix := [5]) (by decide) (fun s_ H_ Cc_ cl_ fp_ C => (wg_name C 5)) (fun s_ H_ Cc_ cl_ fp_ k14 C => WE.cast (m' := pure 400) we_int (by first | rfl | simp only [bind_as, pure_b]))) (fz_lst _)) (by first | rfl | simp only [bind_as, pure_b])) fun a0 => wa_cons (R := (tLst tInt).rl) (WE.cast (m' := mapO (fun k16 => pure 0) (upto 40)) (WO.fz (wo_lc C [("k", 5)] (by decide +kernel) (WIg.s (WI.cast (m' := pure (upto 40)) (WI.cast (wi_range C Z we_int) rfl) (by first | rfl | simp only [bind_as, pure_b]))) (ix := [5]) (by decide) (fun s_ H_ Cc_ cl_ fp_ C => (wg_name C 5)) (fun s_ H_ Cc_ cl_ fp_ k16 C => WE.cast (m' := pure 0) we_int (by first | rfl | simp only [bind_as, pure_b]))) (fz_lst _)) (by first | rfl | simp only [bind_as, pure_b])) fun a1 => wa_cons (R := tD.rl) (WE.cast (m' := (mapO (fun arc18 => (idx arc18 0) >>= fun t19 => (idx arc18 1) >>= fun t20 => pure [t19, t20, 0]) s13.1) >>= fun t22 => pure ((cLst (cLst cInt)).d t22)) (WE.map (R := (tLst (tLst tInt)).rl) (S := tD.rl) (WO.fz (wo_lc C [("arc", 11)] (by decide +kernel) (WIg.s (WI.cast (m' := pure s13.1) (wi_lst (we_var C 1)) (by first | rfl | simp only [bind_as, pure_b]))) (ix := [11]) (by decide) (fun s_ H_ Cc_ cl_ fp_ C => (wg_name C 11)) (fun s_ H_ Cc_ cl_ fp_ arc18 C => WE.cast (m' := (idx arc18 0) >>= fun t19 => (idx arc18 1) >>= fun t20 => pure [t19, t20, 0]) (WO.fz (wo_lst (wal_cons (WE.cast (m' := idx arc18 0) (we_ixL (WE.rd (we_var C 11)) we_int) (by first | rfl | simp only [bind_as, pure_b])) (wal_cons (WE.cast (m' := idx arc18 1) (we_ixL (WE.rd (we_var C 11)) we_int) (by first | rfl | simp only [bind_as, pure_b])) (wal_cons we_int wal_nil)))) (fz_lst _)) (by first | rfl | simp only [bind_as, pure_b]))) (fz_lst _)) (cLst (cLst cInt)).d (fun K F H v a _ h => (dp_lst (dp_lst dp_int)) K F v a h)) (by first | rfl | simp only [bind_as, pure_b])) fun a2 => wa_nil fun K F H s v2 r2 v1 r1 v0 r0 => ⟨(a0, a1, a2, ()), rfl, v0, _, rfl, r0, v1, _, rfl, r1, v2, _, rfl, r2, rfl⟩)) (by first | (simp only [pure_b, bind_as]; done) | rfl)) (fun web =>
ws_set C 9 (WE.cast (m' := pure s13.2) (WO.fz (wo_list C Z (WE.hr (we_ovar C 2))) (fz_lst _)) (by first | rfl | simp only [bind_as, pure_b])) (fun passed =>
ws_set C 10 (WE.cast (m' := m_without_rings web passed) (we_call C G_without_rings (by decide) (wa_cons (R := (tRec "Web" R_Web).rl) (we_var C 8) fun a0 => wa_cons (R := (tLst tInt).rl) (we_var C 9) fun a1 => wa_nil fun K F H s v1 r1 v0 r0 => ⟨(a0, a1, ()), rfl, v0, _, rfl, r0, v1, _, rfl, r1, rfl⟩)) (by first | (simp only [pure_b, bind_as]; done) | rfl)) (fun told =>
ws_fz 2 (fz_lst _) hW rfl (
ws_ret0 (WE.cast (m' := if (decide (passed = s13.2)) = true then m_law_right 40 s13.1 s13.2 told else pure false) (we_and (we_eqD C (cLst cInt) (dp_lst dp_int).r (dp_lst dp_int).r (we_var C 9) (we_var C 2)) (we_bo1 (we_call C G_law_right (by decide) (wa_cons (R := tInt.rl) we_int fun a0 => wa_cons (R := (tLst (tLst tInt)).rl) (we_var C 1) fun a1 => wa_cons (R := (tLst tInt).rl) (we_var C 2) fun a2 => wa_cons (R := (tTup tInt).rl) (we_var C 10) fun a3 => wa_nil fun K F H s v3 r3 v2 r2 v1 r1 v0 r0 => ⟨(a0, a1, a2, a3, ()), rfl, v0, _, rfl, r0, v1, _, rfl, r1, v2, _, rfl, r2, v3, _, rfl, r3, rfl⟩)))) (by first | (simp only [pure_b, bind_as]; done) | rfl)) (fun _ => rfl)))))))))
def b_law (script : List Int) : Out Bool :=
((m_law_cell script 0) >>= fun t8 => (((((((repO [38, 5] 4) >>= fun t1 => catO [6, 40] t1) >>= fun t2 => repO t2 6) >>= fun t3 => catO [10, 45, 4, 2] t3) >>= fun t4 => (repO [39] 16) >>= fun t5 => catO t4 t5) >>= fun t6 => catO t6 [24]) >>= fun t7 => catO t7 [40, 40, 6, 2]) >>= fun t9 => m_law_digits t8 t9) >>= fun row =>
((m_law_walks row) >>= fun t10 => m_law_lay row t10) >>= fun laid =>
((m_law_cell script 1) >>= fun t13 => ((repO [7] 48) >>= fun t11 => (repO [3] 40) >>= fun t12 => catO t11 t12) >>= fun t14 => m_law_digits t13 t14) >>= fun free =>
((pure laid.2.1) >>= fun xs16 => mapO (fun arc15 => pure 0) xs16) >>= fun units =>
((pure (upto 6)) >>= fun xs27 => forO (fun (s17 : (List Int)) (x18 : Int) =>
((idx laid.2.2 x18) >>= fun xs25 => forO (fun (s19 : (List Int)) (x20 : Int) =>
((idx s19 x20) >>= fun t21 => (idx row (5 + (10 * x18))) >>= fun t22 => pure (t21 + t22)) >>= fun a23 => (pure x20) >>= fun j24 => setO s19 j24 a23 >>= fun units =>
pure units) xs25 s17) >>= fun s26 =>
pure s26) xs27 units) >>= fun s28 =>
((m_law_sums laid.1 laid.2.1 s28) >>= fun t29 => pure t29.1) >>= fun loads =>
((rangeO laid.1) >>= fun xs36 => mapO (fun k30 => ((idx loads k30) >>= fun t32 => ((idx free (48 + k30)) >>= fun t31 => pure (200 * t31)) >>= fun t33 => pure (t32 + t33)) >>= fun t34 => pure (min 400 t34)) xs36) >>= fun rooms =>
((pure laid.2.1) >>= fun xs40 => mapO (fun arc37 => (idx arc37 0) >>= fun t38 => (idx arc37 1) >>= fun t39 => pure [t38, t39, 1]) xs40) >>= fun arcs =>
((mapO (fun room41 => pure 1) rooms) >>= fun t46 => ((mapO (fun arc43 => pure arc43) arcs) >>= fun t45 => pure ((cLst (cLst cInt)).d t45)) >>= fun t47 => m_Web___init__ rooms t46 t47) >>= fun web =>
(m_without_ringsT web s28) >>= fun flow =>
(((m_law_right laid.1 laid.2.1 s28 flow) >>= fun t48 => pure (!t48)) >>= fun t50 => if t50 = true then pure true else (m_flow_fault web flow) >>= fun t49 => pure t49.isSome) >>= fun c51 => if c51 = true then (
pure false)
else (
(m_flow_total web flow) >>= fun total =>
(((m_law_whole total) >>= fun t52 => pure (!t52)) >>= fun t56 => if t56 = true then pure true else (((m_law_sums laid.1 laid.2.1 s28) >>= fun t53 => pure t53.2) >>= fun t54 => idx t54 0) >>= fun t55 => pure (!decide (total = t55))) >>= fun c57 => if c57 = true then (
pure false)
else (
(((idx row 2) >>= fun t58 => pure (decide (t58 = 0))) >>= fun c59 => if c59 = true then (
((pure s28) >>= fun xs63 => mapO (fun number61 => (mulO number61 100000000000000000000) >>= fun t62 => pure (t62 + number61)) xs63) >>= fun units =>
pure units)
else (
pure s28)) >>= fun s60 =>
((pure (upto laid.2.1.length)) >>= fun xs69 => mapO (fun k64 => (idx free k64) >>= fun t67 => (((idx free k64) >>= fun t65 => pure (decide (t65 < 6))) >>= fun t66 => pure (if t66 = true then 1 else 0)) >>= fun t68 => mulO t67 t68) xs69) >>= fun some_ =>
((((idx row 3) >>= fun t70 => pure (decide (t70 = 0))) >>= fun t71 => m_law_asked web laid.1 laid.2.1 s60 t71) >>= fun t72 => pure (!t72)) >>= fun c73 => if c73 = true then (
pure false)
else (
((((idx row 3) >>= fun t74 => pure (decide (t74 = 1))) >>= fun t75 => m_law_asked web laid.1 laid.2.1 some_ t75) >>= fun t76 => pure (!t76)) >>= fun c77 => if c77 = true then (
pure false)
else (
(((idx row 80) >>= fun t78 => pure (decide (t78 = 0))) >>= fun t80 => if t80 = true then (m_law_large_right script) >>= fun t79 => pure (!t79) else pure false) >>= fun c81 => if c81 = true then (
pure false)
else (
(((m_law_long_right (cut row (some 81) none)) >>= fun t82 => pure (!t82)) >>= fun t86 => if t86 = true then pure true else (((idx row 3) >>= fun t83 => pure (decide (t83 = 1))) >>= fun t84 => m_law_asked web laid.1 laid.2.1 s60 t84) >>= fun t85 => pure (!t85)) >>= fun c87 => if c87 = true then (
pure false)
else (
((mapO (fun room88 => pure 1) rooms) >>= fun t90 => pure (rooms, t90, arcs)) >>= fun t91 => m_law_web_stays web t91))))))
theorem x_law : ∃ g : (List Int) → Out Bool, g = b_law := ⟨_, rfl⟩
def m_law : (List Int) → Out Bool := Classical.choose x_law
theorem m_law_eq : m_law = b_law := Classical.choose_spec x_law
abbrev P_law : Par ((List Int) × Unit) := (pC (tLstQ tInt) pN)
abbrev u_law (i : (List Int) × Unit) : Out Bool := m_law i.1
theorem sc_law : FnScope ["script", "row", "laid", "free", "units", "j", "at", "loads", "rooms", "arcs", "web", "flow", "total", "some", "arc", "k", "room", "number"] ["script"] (defScope s_law) := ⟨rfl, rfl, rfl, by decide +kernel, rfl, by decide +kernel, by decide +kernel⟩
abbrev sp_law (K : PySem.W.Frag) : Sp := Sps P_law u_law tBool K
theorem ok_law {fd : FuncData} (Z : Fre mg) (F : FunD K "law" "law" (defArgs s_law) (defBody s_law) (defScope s_law) [] [] (He.fAd K ("law", none)) fd) (G_law_cell : Def Pr w K mg base 1 "_law_cell" ["script", "k"] [] (sp_law_cell K)) (G_law_digits : Def Pr w K mg base 1 "_law_digits" ["cell", "sizes"] [] (sp_law_digits K)) (G_law_walks : Def Pr w K mg base 1 "_law_walks" ["row"] [] (sp_law_walks K)) (G_law_lay : Def Pr w K mg base 2 "_law_lay" ["row", "walks"] [] (sp_law_lay K)) (G_law_sums : Def Pr w K mg base 1 "_law_sums" ["count", "arcs", "units"] [] (sp_law_sums K)) (G_Web___init__ : MkD Pr w K mg base 10 "Web" ["self", "rooms", "gains", "arcs"] [] (sp_Web___init__ K)) (G_without_ringsT : Def Pr w K mg base 3 "without_rings" ["web", "units"] [] (sp_without_ringsT K)) (G_law_right : Def Pr w K mg base 3 "_law_right" ["count", "arcs", "units", "told"] [] (sp_law_right K)) (G_flow_fault : Def Pr w K mg base 4 "flow_fault" ["web", "units"] [] (sp_flow_fault K)) (G_flow_total : Def Pr w K mg base 4 "flow_total" ["web", "units"] [] (sp_flow_total K)) (G_law_whole : Def Pr w K mg base 1 "_law_whole" ["value"] [] (sp_law_whole K)) (G_law_asked : Def Pr w K mg base 4 "_law_asked" ["web", "count", "arcs", "units", "listed"] [] (sp_law_asked K)) (G_law_large_right : Def Pr w K mg base 12 "_law_large_right" ["script"] [] (sp_law_large_right K)) (G_law_long_right : Def Pr w K mg base 12 "_law_long_right" ["part"] [] (sp_law_long_right K)) (G_law_web_stays : Def Pr w K mg base 1 "_law_web_stays" ["made", "web"] [] (sp_law_web_stays K)) (D_Web : ClsF K "Web" ["rooms", "gains", "arcs"])  : FnG Pr w K mg base (L2.CX Pr w) 13 (He.fAd K ("law", none)) fd ["script"] (sp_law K) := by
  refine fn_body F sc_law rfl (by decide) (fun X E B i e1 e2 e3 e4 e5 hW C => ?_)
  subst e1 e2 e3 e4 e5
  obtain ⟨script, _⟩ := i
  show WS X E B [iS (tLstQ tInt) script, .any, .any, .any, .any, .any, .any, .any, .any, .any, .any, .any, .any, .any, .any, .any, .any, .any] [_] (m_law script) _
  rw [m_law_eq]
  unfold b_law
  exact ws_set C 1 (WE.cast (m' := (m_law_cell script 0) >>= fun t8 => (((((((repO [38, 5] 4) >>= fun t1 => catO [6, 40] t1) >>= fun t2 => repO t2 6) >>= fun t3 => catO [10, 45, 4, 2] t3) >>= fun t4 => (repO [39] 16) >>= fun t5 => catO t4 t5) >>= fun t6 => catO t6 [24]) >>= fun t7 => catO t7 [40, 40, 6, 2]) >>= fun t9 => m_law_digits t8 t9) (WO.fz (wo_call C G_law_digits (by decide) (wa_cons (R := tInt.rl) (WE.cast (m' := m_law_cell script 0) (we_call C G_law_cell (by decide) (wa_cons (R := (tLstQ tInt).rl) (we_var C 0) fun a0 => wa_cons (R := tInt.rl) we_int fun a1 => wa_nil fun K F H s v1 r1 v0 r0 => ⟨(a0, a1, ()), rfl, v0, _, rfl, r0, v1, _, rfl, r1, rfl⟩)) (by first | (simp only [pure_b, bind_as]; done) | rfl)) fun a0 => wa_cons (R := (tLst tInt).rl) (WE.cast (m' := ((((((repO [38, 5] 4) >>= fun t1 => catO [6, 40] t1) >>= fun t2 => repO t2 6) >>= fun t3 => catO [10, 45, 4, 2] t3) >>= fun t4 => (repO [39] 16) >>= fun t5 => catO t4 t5) >>= fun t6 => catO t6 [24]) >>= fun t7 => catO t7 [40, 40, 6, 2]) (WO.fz (wo_cat (WO.rh (wo_cat (WO.rh (wo_cat (WO.rh (wo_cat (WO.rh (wo_lst (wal_cons we_int (wal_cons we_int (wal_cons we_int (wal_cons we_int wal_nil)))))) (WO.rh (wo_rep (WO.rh (wo_cat (WO.rh (wo_lst (wal_cons we_int (wal_cons we_int wal_nil)))) (WO.rh (wo_rep (WO.rh (wo_lst (wal_cons we_int (wal_cons we_int wal_nil)))) we_int)))) we_int)))) (WO.rh (wo_rep (WO.rh (wo_lst (wal_cons we_int wal_nil))) we_int)))) (WO.rh (wo_lst (wal_cons we_int wal_nil))))) (WO.rh (wo_lst (wal_cons we_int (wal_cons we_int (wal_cons we_int (wal_cons we_int wal_nil))))))) (fz_lst _)) (by first | rfl | simp only [bind_as, pure_b])) fun a1 => wa_nil fun K F H s v1 r1 v0 r0 => ⟨(a0, a1, ()), rfl, v0, _, rfl, r0, v1, _, rfl, r1, rfl⟩)) (fz_lst _)) (by first | (simp only [pure_b, bind_as]; done) | rfl)) (fun row =>
ws_set C 2 (WE.cast (m' := (m_law_walks row) >>= fun t10 => m_law_lay row t10) (we_call C G_law_lay (by decide) (wa_cons (R := (tLst tInt).rl) (we_var C 1) fun a0 => wa_cons (R := (tLst (tLst tInt)).rl) (WE.cast (m' := m_law_walks row) (WO.fz (wo_call C G_law_walks (by decide) (wa_cons (R := (tLst tInt).rl) (we_var C 1) fun a0 => wa_nil fun K F H s v0 r0 => ⟨(a0, ()), rfl, v0, _, rfl, r0, rfl⟩)) (fz_lst _)) (by first | (simp only [pure_b, bind_as]; done) | rfl)) fun a1 => wa_nil fun K F H s v1 r1 v0 r0 => ⟨(a0, a1, ()), rfl, v0, _, rfl, r0, v1, _, rfl, r1, rfl⟩)) (by first | (simp only [pure_b, bind_as]; done) | rfl)) (fun laid =>
ws_set C 3 (WE.cast (m' := (m_law_cell script 1) >>= fun t13 => ((repO [7] 48) >>= fun t11 => (repO [3] 40) >>= fun t12 => catO t11 t12) >>= fun t14 => m_law_digits t13 t14) (WO.fz (wo_call C G_law_digits (by decide) (wa_cons (R := tInt.rl) (WE.cast (m' := m_law_cell script 1) (we_call C G_law_cell (by decide) (wa_cons (R := (tLstQ tInt).rl) (we_var C 0) fun a0 => wa_cons (R := tInt.rl) we_int fun a1 => wa_nil fun K F H s v1 r1 v0 r0 => ⟨(a0, a1, ()), rfl, v0, _, rfl, r0, v1, _, rfl, r1, rfl⟩)) (by first | (simp only [pure_b, bind_as]; done) | rfl)) fun a0 => wa_cons (R := (tLst tInt).rl) (WE.cast (m' := (repO [7] 48) >>= fun t11 => (repO [3] 40) >>= fun t12 => catO t11 t12) (WO.fz (wo_cat (WO.rh (wo_rep (WO.rh (wo_lst (wal_cons we_int wal_nil))) we_int)) (WO.rh (wo_rep (WO.rh (wo_lst (wal_cons we_int wal_nil))) we_int))) (fz_lst _)) (by first | rfl | simp only [bind_as, pure_b])) fun a1 => wa_nil fun K F H s v1 r1 v0 r0 => ⟨(a0, a1, ()), rfl, v0, _, rfl, r0, v1, _, rfl, r1, rfl⟩)) (fz_lst _)) (by first | (simp only [pure_b, bind_as]; done) | rfl)) (fun free =>
ws_lc (f := _) C 4 [("arc", 14)] (by decide +kernel) (WIg.s (WI.cast (m' := pure laid.2.1) (wi_lst (we_prj pl31 (we_var C 2))) (by first | rfl | simp only [bind_as, pure_b]))) (ix := [14]) (by decide) (fun s_ H_ Cc_ cl_ fp_ C => (wg_name C 14)) (fun s_ H_ Cc_ cl_ fp_ arc15 C => WE.cast (m' := pure 0) we_int (by first | rfl | simp only [bind_as, pure_b])) (fun units =>
ws_seq (Δ := (fun (s17 : (List Int)) => [iS (tLstQ tInt) script, iS (tLst tInt) row, iS (tL3 tInt (tLst (tLst tInt)) (tLst (tLst tInt))) laid, iS (tLst tInt) free, .on _ (oLst tInt) s17, .any, .any, .any, .any, .any, .any, .any, .any, .any, .any, .any, .any, .any])) (w1_for C (WI.cast (m' := pure (upto 6)) (WI.cast (wi_range C Z we_int) rfl) (by first | rfl | simp only [bind_as, pure_b])) (wg_name C 5) (Δ := (fun (s17 : (List Int)) => [iS (tLstQ tInt) script, iS (tLst tInt) row, iS (tL3 tInt (tLst (tLst tInt)) (tLst (tLst tInt))) laid, iS (tLst tInt) free, .on _ (oLst tInt) s17, .any, .any, .any, .any, .any, .any, .any, .any, .any, .any, .any, .any, .any])) (s0 := units) (Weak.same (Weak.same (Weak.same (Weak.same (Weak.same (Weak.same (Weak.same (Weak.same (Weak.same (Weak.same (Weak.same (Weak.same (Weak.same (Weak.same (Weak.same (Weak.same (Weak.same (Weak.same Weak.nil)))))))))))))))))) (by exact (fun s17 x18 =>
ws_seq (Δ := (fun (s19 : (List Int)) => [iS (tLstQ tInt) script, iS (tLst tInt) row, iS (tL3 tInt (tLst (tLst tInt)) (tLst (tLst tInt))) laid, iS (tLst tInt) free, .on _ (oLst tInt) s19, iS tInt x18, .any, .any, .any, .any, .any, .any, .any, .any, .any, .any, .any, .any])) (w1_for C (WI.cast (m' := idx laid.2.2 x18) (wi_lst (we_ixL (WE.rd (we_prj pl32 (we_var C 2))) (we_var C 5))) (by first | rfl | simp only [bind_as, pure_b])) (wg_name C 6) (Δ := (fun (s19 : (List Int)) => [iS (tLstQ tInt) script, iS (tLst tInt) row, iS (tL3 tInt (tLst (tLst tInt)) (tLst (tLst tInt))) laid, iS (tLst tInt) free, .on _ (oLst tInt) s19, iS tInt x18, .any, .any, .any, .any, .any, .any, .any, .any, .any, .any, .any, .any])) (s0 := s17) (Weak.same (Weak.same (Weak.same (Weak.same (Weak.same (Weak.same (Weak.same (Weak.same (Weak.same (Weak.same (Weak.same (Weak.same (Weak.same (Weak.same (Weak.same (Weak.same (Weak.same (Weak.same Weak.nil)))))))))))))))))) (by exact (fun s19 x20 =>
ws_setI C 4 (WE.cast (m' := (idx s19 x20) >>= fun t21 => (idx row (5 + (10 * x18))) >>= fun t22 => pure (t21 + t22)) (we_add (we_ixL (WE.hr (we_ovar C 4)) (we_var C 6)) (we_ixL (WE.rd (we_var C 1)) (we_add we_int (we_mulL we_int (we_var C 5))))) (by first | rfl | simp only [bind_as, pure_b])) (WE.cast (m' := pure x20) (we_var C 6) (by first | rfl | simp only [bind_as, pure_b])) (fun units =>
ws_fin rfl (Weak.same (Weak.same (Weak.same (Weak.same (Weak.same (Weak.same (Weak.any (Weak.same (Weak.same (Weak.same (Weak.same (Weak.same (Weak.same (Weak.same (Weak.same (Weak.same (Weak.same (Weak.same Weak.nil)))))))))))))))))))))) (fun s26 =>
ws_fin rfl (Weak.same (Weak.same (Weak.same (Weak.same (Weak.same (Weak.any (Weak.same (Weak.same (Weak.same (Weak.same (Weak.same (Weak.same (Weak.same (Weak.same (Weak.same (Weak.same (Weak.same (Weak.same Weak.nil)))))))))))))))))))))) (fun s28 =>
ws_fz 4 (fz_lst _) hW rfl (
ws_set C 7 (WE.cast (m' := (m_law_sums laid.1 laid.2.1 s28) >>= fun t29 => pure t29.1) (we_prj pl20 (we_call C G_law_sums (by decide) (wa_cons (R := tInt.rl) (we_prj pl30 (we_var C 2)) fun a0 => wa_cons (R := (tLst (tLst tInt)).rl) (we_prj pl31 (we_var C 2)) fun a1 => wa_cons (R := (tLst tInt).rl) (we_var C 4) fun a2 => wa_nil fun K F H s v2 r2 v1 r1 v0 r0 => ⟨(a0, a1, a2, ()), rfl, v0, _, rfl, r0, v1, _, rfl, r1, v2, _, rfl, r2, rfl⟩))) (by first | (simp only [pure_b, bind_as]; done) | rfl)) (fun loads =>
ws_lc (f := _) C 8 [("k", 15)] (by decide +kernel) (WIg.s (WI.cast (m' := rangeO laid.1) (wi_range C Z (we_prj pl30 (we_var C 2))) (by first | rfl | simp only [bind_as, pure_b]))) (ix := [15]) (by decide) (fun s_ H_ Cc_ cl_ fp_ C => (wg_name C 15)) (fun s_ H_ Cc_ cl_ fp_ k30 C => WE.cast (m' := ((idx loads k30) >>= fun t32 => ((idx free (48 + k30)) >>= fun t31 => pure (200 * t31)) >>= fun t33 => pure (t32 + t33)) >>= fun t34 => pure (min 400 t34)) (we_min2 C Z we_int (we_add (we_ixL (WE.rd (we_var C 7)) (we_var C 15)) (we_mulL we_int (we_ixL (WE.rd (we_var C 3)) (we_add we_int (we_var C 15)))))) (by first | rfl | simp only [bind_as, pure_b])) (fun rooms => ws_fz 8 (fz_lst _) hW rfl (
ws_lc (f := _) C 9 [("arc", 14)] (by decide +kernel) (WIg.s (WI.cast (m' := pure laid.2.1) (wi_lst (we_prj pl31 (we_var C 2))) (by first | rfl | simp only [bind_as, pure_b]))) (ix := [14]) (by decide) (fun s_ H_ Cc_ cl_ fp_ C => (wg_name C 14)) (fun s_ H_ Cc_ cl_ fp_ arc37 C => WE.cast (m' := (idx arc37 0) >>= fun t38 => (idx arc37 1) >>= fun t39 => pure [t38, t39, 1]) (WO.fz (wo_lst (wal_cons (WE.cast (m' := idx arc37 0) (we_ixL (WE.rd (we_var C 14)) we_int) (by first | rfl | simp only [bind_as, pure_b])) (wal_cons (WE.cast (m' := idx arc37 1) (we_ixL (WE.rd (we_var C 14)) we_int) (by first | rfl | simp only [bind_as, pure_b])) (wal_cons we_int wal_nil)))) (fz_lst _)) (by first | rfl | simp only [bind_as, pure_b])) (fun arcs => ws_fz 9 (fz_lst _) hW rfl (
ws_set C 10 (WE.cast (m' := (mapO (fun room41 => pure 1) rooms) >>= fun t46 => ((mapO (fun arc43 => pure arc43) arcs) >>= fun t45 => pure ((cLst (cLst cInt)).d t45)) >>= fun t47 => m_Web___init__ rooms t46 t47) (we_make C G_Web___init__ (by decide) (wa_cons (R := (tLst tInt).rl) (WO.fz (wo_list C Z (WE.rd (we_var C 8))) (fz_lst _)) fun a0 => wa_cons (R := (tLst tInt).rl) (WE.cast (m' := mapO (fun room41 => pure 1) rooms) (WO.fz (wo_lc C [("room", 16)] (by decide +kernel) (WIg.s (WI.cast (m' := pure rooms) (wi_lst (we_var C 8)) (by first | rfl | simp only [bind_as, pure_b]))) (ix := [16]) (by decide) (fun s_ H_ Cc_ cl_ fp_ C => (wg_name C 16)) (fun s_ H_ Cc_ cl_ fp_ room41 C => WE.cast (m' := pure 1) we_int (by first | rfl | simp only [bind_as, pure_b]))) (fz_lst _)) (by first | rfl | simp only [bind_as, pure_b])) fun a1 => wa_cons (R := tD.rl) (WE.cast (m' := (mapO (fun arc43 => pure arc43) arcs) >>= fun t45 => pure ((cLst (cLst cInt)).d t45)) (WE.map (R := (tLst (tLst tInt)).rl) (S := tD.rl) (WO.fz (wo_lc C [("arc", 14)] (by decide +kernel) (WIg.s (WI.cast (m' := pure arcs) (wi_lst (we_var C 9)) (by first | rfl | simp only [bind_as, pure_b]))) (ix := [14]) (by decide) (fun s_ H_ Cc_ cl_ fp_ C => (wg_name C 14)) (fun s_ H_ Cc_ cl_ fp_ arc43 C => WE.cast (m' := pure arc43) (WO.fz (wo_list C Z (WE.rd (we_var C 14))) (fz_lst _)) (by first | rfl | simp only [bind_as, pure_b]))) (fz_lst _)) (cLst (cLst cInt)).d (fun K F H v a _ h => (dp_lst (dp_lst dp_int)) K F v a h)) (by first | rfl | simp only [bind_as, pure_b])) fun a2 => wa_nil fun K F H s v2 r2 v1 r1 v0 r0 => ⟨(a0, a1, a2, ()), rfl, v0, _, rfl, r0, v1, _, rfl, r1, v2, _, rfl, r2, rfl⟩)) (by first | (simp only [pure_b, bind_as]; done) | rfl)) (fun web =>
ws_set C 11 (WE.cast (m' := m_without_ringsT web s28) (we_call C G_without_ringsT (by decide) (wa_cons (R := (tRec "Web" R_Web).rl) (we_var C 10) fun a0 => wa_cons (R := (tTup tInt).rl) (we_tuple C Z (WE.rd (we_var C 4))) fun a1 => wa_nil fun K F H s v1 r1 v0 r0 => ⟨(a0, a1, ()), rfl, v0, _, rfl, r0, v1, _, rfl, r1, rfl⟩)) (by first | (simp only [pure_b, bind_as]; done) | rfl)) (fun flow =>
ws_if (WT.cast (m' := ((m_law_right laid.1 laid.2.1 s28 flow) >>= fun t48 => pure (!t48)) >>= fun t50 => if t50 = true then pure true else (m_flow_fault web flow) >>= fun t49 => pure t49.isSome) (wt_b (wb_or (wt_not (wt_val (we_call C G_law_right (by decide) (wa_cons (R := tInt.rl) (we_prj pl30 (we_var C 2)) fun a0 => wa_cons (R := (tLst (tLst tInt)).rl) (we_prj pl31 (we_var C 2)) fun a1 => wa_cons (R := (tLst tInt).rl) (we_var C 4) fun a2 => wa_cons (R := (tTup tInt).rl) (we_var C 11) fun a3 => wa_nil fun K F H s v3 r3 v2 r2 v1 r1 v0 r0 => ⟨(a0, a1, a2, a3, ()), rfl, v0, _, rfl, r0, v1, _, rfl, r1, v2, _, rfl, r2, v3, _, rfl, r3, rfl⟩)))) (wb_or1 (wt_notN (we_call C G_flow_fault (by decide) (wa_cons (R := (tRec "Web" R_Web).rl) (we_var C 10) fun a0 => wa_cons (R := (tTup tInt).rl) (we_var C 11) fun a1 => wa_nil fun K F H s v1 r1 v0 r0 => ⟨(a0, a1, ()), rfl, v0, _, rfl, r0, v1, _, rfl, r1, rfl⟩)))))) (by first | (simp only [pure_b, bind_as]; done) | rfl)) (
ws_ret0 (WE.cast (m' := pure false) we_bl (by first | rfl | simp only [bind_as, pure_b])) (fun _ => rfl)) (
ws_pop (ws_set C 12 (WE.cast (m' := m_flow_total web flow) (we_call C G_flow_total (by decide) (wa_cons (R := (tRec "Web" R_Web).rl) (we_var C 10) fun a0 => wa_cons (R := (tTup tInt).rl) (we_var C 11) fun a1 => wa_nil fun K F H s v1 r1 v0 r0 => ⟨(a0, a1, ()), rfl, v0, _, rfl, r0, v1, _, rfl, r1, rfl⟩)) (by first | (simp only [pure_b, bind_as]; done) | rfl)) (fun total =>
ws_if (WT.cast (m' := ((m_law_whole total) >>= fun t52 => pure (!t52)) >>= fun t56 => if t56 = true then pure true else (((m_law_sums laid.1 laid.2.1 s28) >>= fun t53 => pure t53.2) >>= fun t54 => idx t54 0) >>= fun t55 => pure (!decide (total = t55))) (wt_b (wb_or (wt_not (wt_val (we_call C G_law_whole (by decide) (wa_cons (R := tInt.rl) (we_var C 12) fun a0 => wa_nil fun K F H s v0 r0 => ⟨(a0, ()), rfl, v0, _, rfl, r0, rfl⟩)))) (wb_or1 (wt_ne eqs_int (we_var C 12) (we_ixL (WE.rd (we_prj pl21 (we_call C G_law_sums (by decide) (wa_cons (R := tInt.rl) (we_prj pl30 (we_var C 2)) fun a0 => wa_cons (R := (tLst (tLst tInt)).rl) (we_prj pl31 (we_var C 2)) fun a1 => wa_cons (R := (tLst tInt).rl) (we_var C 4) fun a2 => wa_nil fun K F H s v2 r2 v1 r1 v0 r0 => ⟨(a0, a1, a2, ()), rfl, v0, _, rfl, r0, v1, _, rfl, r1, v2, _, rfl, r2, rfl⟩)))) we_int))))) (by first | (simp only [pure_b, bind_as]; done) | rfl)) (
ws_ret0 (WE.cast (m' := pure false) we_bl (by first | rfl | simp only [bind_as, pure_b])) (fun _ => rfl)) (
ws_pop (ws_seq (Δ := (fun (s60 : (List Int)) => [iS (tLstQ tInt) script, iS (tLst tInt) row, iS (tL3 tInt (tLst (tLst tInt)) (tLst (tLst tInt))) laid, iS (tLst tInt) free, iS (tLst tInt) s60, .any, .any, iS (tLst tInt) loads, iS (tLst tInt) rooms, iS (tLst (tLst tInt)) arcs, iS (tRec "Web" R_Web) web, iS (tTup tInt) flow, iS tInt total, .any, .any, .any, .any, .any])) (w1_if (WT.cast (m' := (idx row 2) >>= fun t58 => pure (decide (t58 = 0))) (wt_eq eqs_int (we_ixL (WE.rd (we_var C 1)) we_int) we_int) (by first | rfl | simp only [bind_as, pure_b])) (
ws_lc (f := _) C 4 [("number", 17)] (by decide +kernel) (WIg.s (WI.cast (m' := pure s28) (wi_lst (we_var C 4)) (by first | rfl | simp only [bind_as, pure_b]))) (ix := [17]) (by decide) (fun s_ H_ Cc_ cl_ fp_ C => (wg_name C 17)) (fun s_ H_ Cc_ cl_ fp_ number61 C => WE.cast (m' := (mulO number61 100000000000000000000) >>= fun t62 => pure (t62 + number61)) (we_add (we_mul (we_var C 17) (we_powL 100000000000000000000 we_int we_int)) (we_var C 17)) (by first | rfl | simp only [bind_as, pure_b])) (fun units =>
ws_fz 4 (fz_lst _) hW rfl (ws_fin rfl (Weak.same (Weak.same (Weak.same (Weak.same (Weak.same (Weak.same (Weak.same (Weak.same (Weak.same (Weak.same (Weak.same (Weak.same (Weak.same (Weak.same (Weak.same (Weak.same (Weak.same (Weak.same Weak.nil))))))))))))))))))))) (
ws_fin rfl (Weak.same (Weak.same (Weak.same (Weak.same (Weak.same (Weak.same (Weak.same (Weak.same (Weak.same (Weak.same (Weak.same (Weak.same (Weak.same (Weak.same (Weak.same (Weak.same (Weak.same (Weak.same Weak.nil)))))))))))))))))))) (fun s60 =>
ws_lc (f := _) C 13 [("k", 15)] (by decide +kernel) (WIg.s (WI.cast (m' := pure (upto laid.2.1.length)) (wi_rlen C Z rl_len (WE.rd (we_prj pl31 (we_var C 2)))) (by first | rfl | simp only [bind_as, pure_b]))) (ix := [15]) (by decide) (fun s_ H_ Cc_ cl_ fp_ C => (wg_name C 15)) (fun s_ H_ Cc_ cl_ fp_ k64 C => WE.cast (m' := (idx free k64) >>= fun t67 => (((idx free k64) >>= fun t65 => pure (decide (t65 < 6))) >>= fun t66 => pure (if t66 = true then 1 else 0)) >>= fun t68 => mulO t67 t68) (we_mul (we_ixL (WE.rd (we_var C 3)) (we_var C 15)) (we_intB C Z (we_lt (we_ixL (WE.rd (we_var C 3)) (we_var C 15)) we_int))) (by first | rfl | simp only [bind_as, pure_b])) (fun some_ => ws_fz 13 (fz_lst _) hW rfl (
ws_if (WT.cast (m' := (((idx row 3) >>= fun t70 => pure (decide (t70 = 0))) >>= fun t71 => m_law_asked web laid.1 laid.2.1 s60 t71) >>= fun t72 => pure (!t72)) (wt_not (wt_val (we_call C G_law_asked (by decide) (wa_cons (R := (tRec "Web" R_Web).rl) (we_var C 10) fun a0 => wa_cons (R := tInt.rl) (we_prj pl30 (we_var C 2)) fun a1 => wa_cons (R := (tLst (tLst tInt)).rl) (we_prj pl31 (we_var C 2)) fun a2 => wa_cons (R := (tLst tInt).rl) (we_var C 4) fun a3 => wa_cons (R := tBool.rl) (WE.cast (m' := (idx row 3) >>= fun t70 => pure (decide (t70 = 0))) (we_eq eqs_int (we_ixL (WE.rd (we_var C 1)) we_int) we_int) (by first | rfl | simp only [bind_as, pure_b])) fun a4 => wa_nil fun K F H s v4 r4 v3 r3 v2 r2 v1 r1 v0 r0 => ⟨(a0, a1, a2, a3, a4, ()), rfl, v0, _, rfl, r0, v1, _, rfl, r1, v2, _, rfl, r2, v3, _, rfl, r3, v4, _, rfl, r4, rfl⟩)))) (by first | (simp only [pure_b, bind_as]; done) | rfl)) (
ws_ret0 (WE.cast (m' := pure false) we_bl (by first | rfl | simp only [bind_as, pure_b])) (fun _ => rfl)) (
ws_pop (ws_if (WT.cast (m' := (((idx row 3) >>= fun t74 => pure (decide (t74 = 1))) >>= fun t75 => m_law_asked web laid.1 laid.2.1 some_ t75) >>= fun t76 => pure (!t76)) (wt_not (wt_val (we_call C G_law_asked (by decide) (wa_cons (R := (tRec "Web" R_Web).rl) (we_var C 10) fun a0 => wa_cons (R := tInt.rl) (we_prj pl30 (we_var C 2)) fun a1 => wa_cons (R := (tLst (tLst tInt)).rl) (we_prj pl31 (we_var C 2)) fun a2 => wa_cons (R := (tLst tInt).rl) (we_var C 13) fun a3 => wa_cons (R := tBool.rl) (WE.cast (m' := (idx row 3) >>= fun t74 => pure (decide (t74 = 1))) (we_eq eqs_int (we_ixL (WE.rd (we_var C 1)) we_int) we_int) (by first | rfl | simp only [bind_as, pure_b])) fun a4 => wa_nil fun K F H s v4 r4 v3 r3 v2 r2 v1 r1 v0 r0 => ⟨(a0, a1, a2, a3, a4, ()), rfl, v0, _, rfl, r0, v1, _, rfl, r1, v2, _, rfl, r2, v3, _, rfl, r3, v4, _, rfl, r4, rfl⟩)))) (by first | (simp only [pure_b, bind_as]; done) | rfl)) (
ws_ret0 (WE.cast (m' := pure false) we_bl (by first | rfl | simp only [bind_as, pure_b])) (fun _ => rfl)) (
ws_pop (ws_if (WT.cast (m' := ((idx row 80) >>= fun t78 => pure (decide (t78 = 0))) >>= fun t80 => if t80 = true then (m_law_large_right script) >>= fun t79 => pure (!t79) else pure false) (wt_b (wb_and (wt_eq eqs_int (we_ixL (WE.rd (we_var C 1)) we_int) we_int) (wb_and1 (wt_not (wt_val (we_call C G_law_large_right (by decide) (wa_cons (R := (tLstQ tInt).rl) (we_var C 0) fun a0 => wa_nil fun K F H s v0 r0 => ⟨(a0, ()), rfl, v0, _, rfl, r0, rfl⟩))))))) (by first | (simp only [pure_b, bind_as]; done) | rfl)) (
ws_ret0 (WE.cast (m' := pure false) we_bl (by first | rfl | simp only [bind_as, pure_b])) (fun _ => rfl)) (
ws_pop (ws_if (WT.cast (m' := ((m_law_long_right (cut row (some 81) none)) >>= fun t82 => pure (!t82)) >>= fun t86 => if t86 = true then pure true else (((idx row 3) >>= fun t83 => pure (decide (t83 = 1))) >>= fun t84 => m_law_asked web laid.1 laid.2.1 s60 t84) >>= fun t85 => pure (!t85)) (wt_b (wb_or (wt_not (wt_val (we_call C G_law_long_right (by decide) (wa_cons (R := (tLst tInt).rl) (WO.fz (wo_cut (WE.rd (we_var C 1)) (wp_is we_int) wp_no) (fz_lst _)) fun a0 => wa_nil fun K F H s v0 r0 => ⟨(a0, ()), rfl, v0, _, rfl, r0, rfl⟩)))) (wb_or1 (wt_not (wt_val (we_call C G_law_asked (by decide) (wa_cons (R := (tRec "Web" R_Web).rl) (we_var C 10) fun a0 => wa_cons (R := tInt.rl) (we_prj pl30 (we_var C 2)) fun a1 => wa_cons (R := (tLst (tLst tInt)).rl) (we_prj pl31 (we_var C 2)) fun a2 => wa_cons (R := (tLst tInt).rl) (we_var C 4) fun a3 => wa_cons (R := tBool.rl) (WE.cast (m' := (idx row 3) >>= fun t83 => pure (decide (t83 = 1))) (we_eq eqs_int (we_ixL (WE.rd (we_var C 1)) we_int) we_int) (by first | rfl | simp only [bind_as, pure_b])) fun a4 => wa_nil fun K F H s v4 r4 v3 r3 v2 r2 v1 r1 v0 r0 => ⟨(a0, a1, a2, a3, a4, ()), rfl, v0, _, rfl, r0, v1, _, rfl, r1, v2, _, rfl, r2, v3, _, rfl, r3, v4, _, rfl, r4, rfl⟩))))))) (by first | (simp only [pure_b, bind_as]; done) | rfl)) (
ws_ret0 (WE.cast (m' := pure false) we_bl (by first | rfl | simp only [bind_as, pure_b])) (fun _ => rfl)) (
ws_pop (ws_ret0 (WE.cast (m' := ((mapO (fun room88 => pure 1) rooms) >>= fun t90 => pure (rooms, t90, arcs)) >>= fun t91 => m_law_web_stays web t91) (we_call C G_law_web_stays (by decide) (wa_cons (R := (tRec "Web" R_Web).rl) (we_var C 10) fun a0 => wa_cons (R := (tL3 (tLst tInt) (tLst tInt) (tLst (tLst tInt))).rl) (WE.cast (m' := (mapO (fun room88 => pure 1) rooms) >>= fun t90 => pure (rooms, t90, arcs)) (we_l3 (we_var C 8) (WO.fz (wo_lc C [("room", 16)] (by decide +kernel) (WIg.s (WI.cast (m' := pure rooms) (wi_lst (we_var C 8)) (by first | rfl | simp only [bind_as, pure_b]))) (ix := [16]) (by decide) (fun s_ H_ Cc_ cl_ fp_ C => (wg_name C 16)) (fun s_ H_ Cc_ cl_ fp_ room88 C => WE.cast (m' := pure 1) we_int (by first | rfl | simp only [bind_as, pure_b]))) (fz_lst _)) (we_var C 9)) (by first | rfl | simp only [bind_as, pure_b])) fun a1 => wa_nil fun K F H s v1 r1 v0 r0 => ⟨(a0, a1, ()), rfl, v0, _, rfl, r0, v1, _, rfl, r1, rfl⟩)) (by first | (simp only [pure_b, bind_as]; done) | rfl)) (fun _ => rfl))))))))))))))))))))))))))))))
end
def d_law_whole : He5.DefA := ⟨fun K => He.fAd K ("_law_whole", none), "_law_whole", "_law_whole", defArgs s_law_whole, defBody s_law_whole, defScope s_law_whole, [], []⟩
def d_law_cell : He5.DefA := ⟨fun K => He.fAd K ("_law_cell", none), "_law_cell", "_law_cell", defArgs s_law_cell, defBody s_law_cell, defScope s_law_cell, [], []⟩
def d_law_digits : He5.DefA := ⟨fun K => He.fAd K ("_law_digits", none), "_law_digits", "_law_digits", defArgs s_law_digits, defBody s_law_digits, defScope s_law_digits, [], []⟩
def d_frozen : He5.DefA := ⟨fun K => He.fAd K ("frozen", none), "frozen", "frozen", defArgs s_frozen, defBody s_frozen, defScope s_frozen, [], []⟩
def d_is_arc : He5.DefA := ⟨fun K => He.fAd K ("is_arc", none), "is_arc", "is_arc", defArgs s_is_arc, defBody s_is_arc, defScope s_is_arc, [], []⟩
def d_Web___init__ : He5.DefA := ⟨fun K => He.ma K (He.ga K "Web") "__init__", "__init__", "Web.__init__", defArgs s_Web___init__, defBody s_Web___init__, defScope s_Web___init__, [], []⟩
def d_Web_node_count : He5.DefA := ⟨fun K => He5.wf K (He.ga K "Web") "property" "node_count", "node_count", "Web.node_count", defArgs s_Web_node_count, defBody s_Web_node_count, defScope s_Web_node_count, [], []⟩
def d_live_arcs : He5.DefA := ⟨fun K => He.fAd K ("live_arcs", none), "live_arcs", "live_arcs", defArgs s_live_arcs, defBody s_live_arcs, defScope s_live_arcs, [], []⟩
def d_next_arc : He5.DefA := ⟨fun K => He.fAd K ("next_arc", none), "next_arc", "next_arc", defArgs s_next_arc, defBody s_next_arc, defScope s_next_arc, [], []⟩
def d_found_ring : He5.DefA := ⟨fun K => He.fAd K ("found_ring", none), "found_ring", "found_ring", defArgs s_found_ring, defBody s_found_ring, defScope s_found_ring, [], []⟩
def d_without_rings : He5.DefA := ⟨fun K => He.fAd K ("without_rings", none), "without_rings", "without_rings", defArgs s_without_rings, defBody s_without_rings, defScope s_without_rings, [], []⟩
def d_node_sums : He5.DefA := ⟨fun K => He.fAd K ("node_sums", none), "node_sums", "node_sums", defArgs s_node_sums, defBody s_node_sums, defScope s_node_sums, [], []⟩
def d_flow_total : He5.DefA := ⟨fun K => He.fAd K ("flow_total", none), "flow_total", "flow_total", defArgs s_flow_total, defBody s_flow_total, defScope s_flow_total, [], []⟩
def d_flow_fault : He5.DefA := ⟨fun K => He.fAd K ("flow_fault", none), "flow_fault", "flow_fault", defArgs s_flow_fault, defBody s_flow_fault, defScope s_flow_fault, [], []⟩
def d_law_walks : He5.DefA := ⟨fun K => He.fAd K ("_law_walks", none), "_law_walks", "_law_walks", defArgs s_law_walks, defBody s_law_walks, defScope s_law_walks, [], []⟩
def d_law_arc_at : He5.DefA := ⟨fun K => He.fAd K ("_law_arc_at", none), "_law_arc_at", "_law_arc_at", defArgs s_law_arc_at, defBody s_law_arc_at, defScope s_law_arc_at, [], []⟩
def d_law_lay : He5.DefA := ⟨fun K => He.fAd K ("_law_lay", none), "_law_lay", "_law_lay", defArgs s_law_lay, defBody s_law_lay, defScope s_law_lay, [], []⟩
def d_law_sums : He5.DefA := ⟨fun K => He.fAd K ("_law_sums", none), "_law_sums", "_law_sums", defArgs s_law_sums, defBody s_law_sums, defScope s_law_sums, [], []⟩
def d_law_has_ring : He5.DefA := ⟨fun K => He.fAd K ("_law_has_ring", none), "_law_has_ring", "_law_has_ring", defArgs s_law_has_ring, defBody s_law_has_ring, defScope s_law_has_ring, [], []⟩
def d_law_numbers : He5.DefA := ⟨fun K => He.fAd K ("_law_numbers", none), "_law_numbers", "_law_numbers", defArgs s_law_numbers, defBody s_law_numbers, defScope s_law_numbers, [], []⟩
def d_law_right : He5.DefA := ⟨fun K => He.fAd K ("_law_right", none), "_law_right", "_law_right", defArgs s_law_right, defBody s_law_right, defScope s_law_right, [], []⟩
def d_law_web_stays : He5.DefA := ⟨fun K => He.fAd K ("_law_web_stays", none), "_law_web_stays", "_law_web_stays", defArgs s_law_web_stays, defBody s_law_web_stays, defScope s_law_web_stays, [], []⟩
def d_law_asked : He5.DefA := ⟨fun K => He.fAd K ("_law_asked", none), "_law_asked", "_law_asked", defArgs s_law_asked, defBody s_law_asked, defScope s_law_asked, [], []⟩
def d_law_long_right : He5.DefA := ⟨fun K => He.fAd K ("_law_long_right", none), "_law_long_right", "_law_long_right", defArgs s_law_long_right, defBody s_law_long_right, defScope s_law_long_right, [], []⟩
def d_law_large_right : He5.DefA := ⟨fun K => He.fAd K ("_law_large_right", none), "_law_large_right", "_law_large_right", defArgs s_law_large_right, defBody s_law_large_right, defScope s_law_large_right, [], []⟩
def d_law : He5.DefA := ⟨fun K => He.fAd K ("law", none), "law", "law", defArgs s_law, defBody s_law, defScope s_law, [], []⟩
def fn : List He5.DefA := [d_law_whole, d_law_cell, d_law_digits, d_frozen, d_is_arc, d_Web___init__, d_Web_node_count, d_live_arcs, d_next_arc, d_found_ring, d_without_rings, d_node_sums, d_flow_total, d_flow_fault, d_law_walks, d_law_arc_at, d_law_lay, d_law_sums, d_law_has_ring, d_law_numbers, d_law_right, d_law_web_stays, d_law_asked, d_law_long_right, d_law_large_right, d_law]
def fa : List He.Fa := [.free "len", .free "range", .free "int", .free "isinstance", .free "list", .free "tuple", .free "enumerate", .free "max", .free "min", .free "sorted", .free "set", .free "any", .free "all", .free "sum", .free "zip", .free "abs", .free "bool", .free "str", .free "ValueError", .free "reversed", .free "repr", .glo "_law_whole", .glo "_law_cell", .glo "_law_digits", .glo "frozen", .glo "is_arc", .glo "Web", .mkr "Web", .glo "live_arcs", .glo "next_arc", .glo "found_ring", .glo "without_rings", .glo "node_sums", .glo "flow_total", .glo "flow_fault", .glo "_law_walks", .glo "_law_arc_at", .glo "_law_lay", .glo "_law_sums", .glo "_law_has_ring", .glo "_law_numbers", .glo "_law_right", .glo "_law_web_stays", .glo "_law_asked", .glo "_law_long_right", .glo "_law_large_right", .glo "law", .int "HOME" 0, .int "GOAL" 1, .cls "Web", .noat "Web" "rooms", .noat "Web" "gains", .noat "Web" "arcs"]
def ex (K : PySem.W.Frag) : Bool := (propB K "Web" "node_count" && true)
abbrev RR : PySem.W.OpenRow := PySem.W.OpenLaw.row PySem.Challenge.rw_sloweralone_k13_rings_out
abbrev hk : PySem.W.Hook := hookE 7 fa fn ex
def ob (s : PySem.W.SharedT) : AlE := obsEG 7 fa fn ex (HandSHeadRun.getT s)
theorem ob_eq (s : PySem.W.SharedT) : ob s = hk.obs s.abs := obsEG_eq (HandSHeadRun.getT_eq s)
def loose : List Str := [("__name__" : Str), ("live_arcs" : Str), ("next_arc" : Str), ("found_ring" : Str), ("without_rings" : Str), ("OfficeError" : Str), ("BadArc" : Str), ("frozen" : Str), ("HOME" : Str), ("GOAL" : Str), ("is_arc" : Str), ("Web" : Str), ("node_sums" : Str), ("flow_total" : Str), ("flow_fault" : Str), ("_law_whole" : Str), ("_law_cell" : Str), ("_law_digits" : Str), ("_law_walks" : Str), ("_law_arc_at" : Str), ("_law_lay" : Str), ("_law_sums" : Str), ("_law_has_ring" : Str), ("_law_numbers" : Str), ("_law_right" : Str), ("_law_web_stays" : Str), ("_law_asked" : Str), ("_law_long_right" : Str), ("_law_large_right" : Str)]
set_option maxHeartbeats 0 in
theorem run (w : World) : HandSHeadRun.RunEq RR (PySem.W.view RR.prog [33]) hk ob 2000 loose w := by
  intro os
  kernel_rfl
theorem facts {P : Program} {w : World} {K : PySem.W.Frag} {h : Heap} {mg : Str → Option Value} {f : Addr} (X : K.In h) (G : h.Ns mainGlobals mg) (hfa : mg ("law" : Str) = some (.ref f)) (c : SaysE fa fn ex K) :
    ∃ fd : FuncData, (∀ (s : Shared) (v : Value), BindsTo s fd ⟨[v], []⟩ [("script", v)]) ∧ ∀ base : Heap, K.In base → base.Ns mainGlobals mg → FnG P w K mg base (L2.CX P w) 13 f fd ["script"] (sp_law K) := by
  have Z : Fre mg := ⟨He.free_ok X G (c.a.fact 0), He.free_ok X G (c.a.fact 1), He.free_ok X G (c.a.fact 2), He.free_ok X G (c.a.fact 3), He.free_ok X G (c.a.fact 4), He.free_ok X G (c.a.fact 5), He.free_ok X G (c.a.fact 6), He.free_ok X G (c.a.fact 7), He.free_ok X G (c.a.fact 8), He.free_ok X G (c.a.fact 9), He.free_ok X G (c.a.fact 10), He.free_ok X G (c.a.fact 11), He.free_ok X G (c.a.fact 12), He.free_ok X G (c.a.fact 13), He.free_ok X G (c.a.fact 14), He.free_ok X G (c.a.fact 15), He.free_ok X G (c.a.fact 16), He.free_ok X G (c.a.fact 17), He.free_ok X G (c.a.fact 18), He.free_ok X G (c.a.fact 19), He.free_ok X G (c.a.fact 20)⟩
  have hx : ex K = true := c.e
  obtain ⟨hp0, hx0⟩ := He.ba hx
  have M_Web_node_count := propB_ok hp0
  have D_Web : ClsF K "Web" ["rooms", "gains", "arcs"] := clsF_ok (c.a.fact 49) (by
    intro f hf
    simp only [List.mem_cons, List.not_mem_nil, or_false] at hf
    rcases hf with rfl | rfl | rfl
    · exact c.a.fact 50
    · exact c.a.fact 51
    · exact c.a.fact 52)
  have g_law_whole : mg ("_law_whole" : Str) = some (.ref (He.fAd K ("_law_whole", none))) := He.glo_ok X G (c.a.fact 21)
  obtain ⟨fd_law_whole, F_law_whole⟩ := c.a.def_ 0 (d := d_law_whole)
  have g_law_cell : mg ("_law_cell" : Str) = some (.ref (He.fAd K ("_law_cell", none))) := He.glo_ok X G (c.a.fact 22)
  obtain ⟨fd_law_cell, F_law_cell⟩ := c.a.def_ 1 (d := d_law_cell)
  have g_law_digits : mg ("_law_digits" : Str) = some (.ref (He.fAd K ("_law_digits", none))) := He.glo_ok X G (c.a.fact 23)
  obtain ⟨fd_law_digits, F_law_digits⟩ := c.a.def_ 2 (d := d_law_digits)
  have g_frozen : mg ("frozen" : Str) = some (.ref (He.fAd K ("frozen", none))) := He.glo_ok X G (c.a.fact 24)
  obtain ⟨fd_frozen, F_frozen⟩ := c.a.def_ 3 (d := d_frozen)
  have g_is_arc : mg ("is_arc" : Str) = some (.ref (He.fAd K ("is_arc", none))) := He.glo_ok X G (c.a.fact 25)
  obtain ⟨fd_is_arc, F_is_arc⟩ := c.a.def_ 4 (d := d_is_arc)
  have g_Web___init__ : mg ("Web" : Str) = some (.ref (He.ga K "Web")) := He.glo_ok X G (c.a.fact 26)
  have M_Web___init__ := He.mkr_ok (x := "Web") (c.a.fact 27)
  obtain ⟨fd_Web___init__, F_Web___init__⟩ := c.a.def_ 5 (d := d_Web___init__)
  obtain ⟨fd_Web_node_count, F_Web_node_count⟩ := c.a.def_ 6 (d := d_Web_node_count)
  have g_live_arcs : mg ("live_arcs" : Str) = some (.ref (He.fAd K ("live_arcs", none))) := He.glo_ok X G (c.a.fact 28)
  obtain ⟨fd_live_arcs, F_live_arcs⟩ := c.a.def_ 7 (d := d_live_arcs)
  have g_next_arc : mg ("next_arc" : Str) = some (.ref (He.fAd K ("next_arc", none))) := He.glo_ok X G (c.a.fact 29)
  obtain ⟨fd_next_arc, F_next_arc⟩ := c.a.def_ 8 (d := d_next_arc)
  have g_found_ring : mg ("found_ring" : Str) = some (.ref (He.fAd K ("found_ring", none))) := He.glo_ok X G (c.a.fact 30)
  obtain ⟨fd_found_ring, F_found_ring⟩ := c.a.def_ 9 (d := d_found_ring)
  have g_without_rings : mg ("without_rings" : Str) = some (.ref (He.fAd K ("without_rings", none))) := He.glo_ok X G (c.a.fact 31)
  obtain ⟨fd_without_rings, F_without_rings⟩ := c.a.def_ 10 (d := d_without_rings)
  have g_node_sums : mg ("node_sums" : Str) = some (.ref (He.fAd K ("node_sums", none))) := He.glo_ok X G (c.a.fact 32)
  obtain ⟨fd_node_sums, F_node_sums⟩ := c.a.def_ 11 (d := d_node_sums)
  have g_flow_total : mg ("flow_total" : Str) = some (.ref (He.fAd K ("flow_total", none))) := He.glo_ok X G (c.a.fact 33)
  obtain ⟨fd_flow_total, F_flow_total⟩ := c.a.def_ 12 (d := d_flow_total)
  have g_flow_fault : mg ("flow_fault" : Str) = some (.ref (He.fAd K ("flow_fault", none))) := He.glo_ok X G (c.a.fact 34)
  obtain ⟨fd_flow_fault, F_flow_fault⟩ := c.a.def_ 13 (d := d_flow_fault)
  have g_law_walks : mg ("_law_walks" : Str) = some (.ref (He.fAd K ("_law_walks", none))) := He.glo_ok X G (c.a.fact 35)
  obtain ⟨fd_law_walks, F_law_walks⟩ := c.a.def_ 14 (d := d_law_walks)
  have g_law_arc_at : mg ("_law_arc_at" : Str) = some (.ref (He.fAd K ("_law_arc_at", none))) := He.glo_ok X G (c.a.fact 36)
  obtain ⟨fd_law_arc_at, F_law_arc_at⟩ := c.a.def_ 15 (d := d_law_arc_at)
  have g_law_lay : mg ("_law_lay" : Str) = some (.ref (He.fAd K ("_law_lay", none))) := He.glo_ok X G (c.a.fact 37)
  obtain ⟨fd_law_lay, F_law_lay⟩ := c.a.def_ 16 (d := d_law_lay)
  have g_law_sums : mg ("_law_sums" : Str) = some (.ref (He.fAd K ("_law_sums", none))) := He.glo_ok X G (c.a.fact 38)
  obtain ⟨fd_law_sums, F_law_sums⟩ := c.a.def_ 17 (d := d_law_sums)
  have g_law_has_ring : mg ("_law_has_ring" : Str) = some (.ref (He.fAd K ("_law_has_ring", none))) := He.glo_ok X G (c.a.fact 39)
  obtain ⟨fd_law_has_ring, F_law_has_ring⟩ := c.a.def_ 18 (d := d_law_has_ring)
  have g_law_numbers : mg ("_law_numbers" : Str) = some (.ref (He.fAd K ("_law_numbers", none))) := He.glo_ok X G (c.a.fact 40)
  obtain ⟨fd_law_numbers, F_law_numbers⟩ := c.a.def_ 19 (d := d_law_numbers)
  have g_law_right : mg ("_law_right" : Str) = some (.ref (He.fAd K ("_law_right", none))) := He.glo_ok X G (c.a.fact 41)
  obtain ⟨fd_law_right, F_law_right⟩ := c.a.def_ 20 (d := d_law_right)
  have g_law_web_stays : mg ("_law_web_stays" : Str) = some (.ref (He.fAd K ("_law_web_stays", none))) := He.glo_ok X G (c.a.fact 42)
  obtain ⟨fd_law_web_stays, F_law_web_stays⟩ := c.a.def_ 21 (d := d_law_web_stays)
  have g_law_asked : mg ("_law_asked" : Str) = some (.ref (He.fAd K ("_law_asked", none))) := He.glo_ok X G (c.a.fact 43)
  obtain ⟨fd_law_asked, F_law_asked⟩ := c.a.def_ 22 (d := d_law_asked)
  have g_law_long_right : mg ("_law_long_right" : Str) = some (.ref (He.fAd K ("_law_long_right", none))) := He.glo_ok X G (c.a.fact 44)
  obtain ⟨fd_law_long_right, F_law_long_right⟩ := c.a.def_ 23 (d := d_law_long_right)
  have g_law_large_right : mg ("_law_large_right" : Str) = some (.ref (He.fAd K ("_law_large_right", none))) := He.glo_ok X G (c.a.fact 45)
  obtain ⟨fd_law_large_right, F_law_large_right⟩ := c.a.def_ 24 (d := d_law_large_right)
  have g_law : mg ("law" : Str) = some (.ref (He.fAd K ("law", none))) := He.glo_ok X G (c.a.fact 46)
  obtain ⟨fd_law, F_law⟩ := c.a.def_ 25 (d := d_law)
  have c_HOME := He.int_ok X G (c.a.fact 47 (f := .int "HOME" 0))
  have c_GOAL := He.int_ok X G (c.a.fact 48 (f := .int "GOAL" 1))
  have e : f = He.fAd K ("law", none) := by
    rw [g_law] at hfa
    exact (Value.ref.inj (Option.some.inj hfa)).symm
  subst e
  refine ⟨fd_law, fun s v => F_law.bindsA (ps := ["script"]) (fun _ _ _ _ _ _ us hl => match us, hl with | [_], _ => rfl) s [v] rfl, fun base hb hn => ?_⟩
  have o_law_whole := ok_law_whole (Pr := P) (w := w) (base := base) Z F_law_whole g_law_whole 
  have o_law_cell := ok_law_cell (Pr := P) (w := w) (base := base) Z F_law_cell g_law_cell 
  have o_law_digits := ok_law_digits (Pr := P) (w := w) (base := base) Z F_law_digits g_law_digits 
  have o_frozen := ok_frozen (Pr := P) (w := w) (base := base) Z F_frozen g_frozen 
  have o_is_arc := ok_is_arc (Pr := P) (w := w) (base := base) Z F_is_arc g_is_arc c_GOAL c_HOME
  have o_Web___init__ := ok_Web___init__ (Pr := P) (w := w) (base := base) Z F_Web___init__ g_Web___init__ M_Web___init__ o_frozen o_is_arc D_Web
  have o_Web_node_count := ok_Web_node_count (Pr := P) (w := w) (mg := mg) (base := base) Z F_Web_node_count M_Web_node_count D_Web
  have o_live_arcs := ok_live_arcs (Pr := P) (w := w) (base := base) Z F_live_arcs g_live_arcs D_Web
  have o_next_arc := ok_next_arc (Pr := P) (w := w) (base := base) Z F_next_arc g_next_arc D_Web
  have o_found_ring := ok_found_ring (Pr := P) (w := w) (base := base) Z F_found_ring g_found_ring o_next_arc
  have o_without_rings := ok_without_rings (Pr := P) (w := w) (base := base) Z F_without_rings g_without_rings o_live_arcs o_found_ring
  have o_without_ringsT := ok_without_ringsT (Pr := P) (w := w) (base := base) Z F_without_rings g_without_rings o_live_arcs o_found_ring
  have o_node_sums := ok_node_sums (Pr := P) (w := w) (base := base) Z F_node_sums g_node_sums o_Web_node_count D_Web
  have o_flow_total := ok_flow_total (Pr := P) (w := w) (base := base) Z F_flow_total g_flow_total o_node_sums c_HOME
  have o_flow_fault := ok_flow_fault (Pr := P) (w := w) (base := base) Z F_flow_fault g_flow_fault o_node_sums o_Web_node_count D_Web
  have o_law_walks := ok_law_walks (Pr := P) (w := w) (base := base) Z F_law_walks g_law_walks 
  have o_law_arc_at := ok_law_arc_at (Pr := P) (w := w) (base := base) Z F_law_arc_at g_law_arc_at 
  have o_law_lay := ok_law_lay (Pr := P) (w := w) (base := base) Z F_law_lay g_law_lay o_law_arc_at
  have o_law_sums := ok_law_sums (Pr := P) (w := w) (base := base) Z F_law_sums g_law_sums 
  have o_law_sumsT := ok_law_sumsT (Pr := P) (w := w) (base := base) Z F_law_sums g_law_sums 
  have o_law_has_ring := ok_law_has_ring (Pr := P) (w := w) (base := base) Z F_law_has_ring g_law_has_ring 
  have o_law_has_ringT := ok_law_has_ringT (Pr := P) (w := w) (base := base) Z F_law_has_ring g_law_has_ring 
  have o_law_numbers := ok_law_numbers (Pr := P) (w := w) (base := base) Z F_law_numbers g_law_numbers o_law_whole
  have o_law_right := ok_law_right (Pr := P) (w := w) (base := base) Z F_law_right g_law_right o_law_numbers o_law_sums o_law_sumsT o_law_has_ringT
  have o_law_web_stays := ok_law_web_stays (Pr := P) (w := w) (base := base) Z F_law_web_stays g_law_web_stays D_Web
  have o_law_asked := ok_law_asked (Pr := P) (w := w) (base := base) Z F_law_asked g_law_asked o_without_rings o_law_right o_law_has_ring o_without_ringsT o_law_numbers
  have o_law_long_right := ok_law_long_right (Pr := P) (w := w) (base := base) Z F_law_long_right g_law_long_right o_Web___init__ o_without_ringsT o_law_numbers D_Web
  have o_law_large_right := ok_law_large_right (Pr := P) (w := w) (base := base) Z F_law_large_right g_law_large_right o_law_cell o_law_digits o_Web___init__ o_without_rings o_law_right D_Web
  exact ok_law Z F_law o_law_cell o_law_digits o_law_walks o_law_lay o_law_sums o_Web___init__ o_without_ringsT o_law_right o_flow_fault o_flow_total o_law_whole o_law_asked o_law_large_right o_law_long_right o_law_web_stays D_Web
end My

namespace My
open PySem PySem.Spec PyProof.Rows L2 SL SM
/-! webs without rings: live arcs, rings found -/
abbrev Web3 : Type := List Int × List Int × List (Int × Int × Int)
def tA (A : List (Int × Int × Int)) (x : Int) : Int := (gA A x.toNat).1
def hA (A : List (Int × Int × Int)) (x : Int) : Int := (gA A x.toNat).2.1
/-- S holds arcs with units alone, and goes on from each one's head -/
def ClosedS (A : List (Int × Int × Int)) (u : List Int) (S : Int → Prop) : Prop := ∀ x, S x → 0 ≤ x ∧ x < u.length ∧ 0 < gA u x.toNat ∧ ∃ y, S y ∧ tA A y = hA A x
structure LiveOk (A : List (Int × Int × Int)) (u : List Int) (L : List Int) : Prop where
  nd : L.Nodup
  pos : ∀ x ∈ L, 0 ≤ x ∧ x < u.length ∧ 0 < gA u x.toNat
  go : ∀ x ∈ L, ∃ y ∈ L, tA A y = hA A x
  all : ∀ S, ClosedS A u S → ∀ x, S x → x ∈ L
theorem enumL_map {α : Type} (xs : List α) : (enumL xs).map (fun p => p.1) = upto xs.length := by
  refine List.ext_getElem? fun k => ?_
  by_cases c : k < xs.length
  · rw [List.getElem?_map, enumL_get (List.getElem?_eq_getElem c), upto_get c]
    rfl
  · rw [List.getElem?_eq_none (by rw [List.length_map, enumL_len]; omega), List.getElem?_eq_none (by rw [upto_len]; omega)]
theorem enumL_mem {xs : List Int} {p : Int × Int} : p ∈ enumL xs ↔ 0 ≤ p.1 ∧ p.1 < xs.length ∧ p.2 = gA xs p.1.toNat := by
  constructor
  · intro h
    obtain ⟨k, hk⟩ := List.mem_iff_getElem?.mp h
    have hl := (List.getElem?_eq_some_iff.mp hk).1
    rw [enumL_len] at hl
    rw [enumL_get (gA_some hl)] at hk
    cases hk
    refine ⟨by simp, by simpa using hl, ?_⟩
    simp
  · rintro ⟨h0, h1, h2⟩
    obtain ⟨x, y⟩ := p
    have hk : x.toNat < xs.length := by
      simp only at h0 h1
      omega
    have := enumL_get (gA_some hk)
    simp only at h2
    subst h2
    rw [Int.toNat_of_nonneg h0] at this
    exact List.mem_of_getElem? this
theorem upto_nodup (n : Nat) : (upto n).Nodup := by
  unfold upto
  refine List.pairwise_iff_getElem.mpr fun i j hi hj hij => ?_
  simp
  omega
theorem live0 (u : List Int) : (((enumL u).filter fun p => decide (0 < p.2)).map fun p => p.1).Nodup ∧ ∀ x : Int, x ∈ ((enumL u).filter fun p => decide (0 < p.2)).map (fun p => p.1) ↔ 0 ≤ x ∧ x < u.length ∧ 0 < gA u x.toNat := by
  constructor
  · have h : List.Sublist (((enumL u).filter fun p => decide (0 < p.2)).map fun p => p.1) (upto u.length) := by
      rw [← enumL_map]
      exact List.Sublist.map _ List.filter_sublist
    exact (upto_nodup _).sublist h
  · intro x
    simp only [List.mem_map, List.mem_filter, enumL_mem, decide_eq_true_eq]
    constructor
    · rintro ⟨⟨a, b⟩, ⟨⟨h0, h1, h2⟩, h3⟩, rfl⟩
      simp only at h0 h1 h2 h3
      exact ⟨h0, h1, by rw [← h2]; exact h3⟩
    · rintro ⟨h0, h1, h2⟩
      exact ⟨(x, gA u x.toNat), ⟨⟨h0, h1, rfl⟩, h2⟩, rfl⟩
def prune (A : List (Int × Int × Int)) (L : List Int) : List Int := L.filter fun x => decide (hA A x ∈ L.map (tA A))
theorem live_arcs_ok {web : Web3} {u : List Int} (hl : web.2.2.length = u.length) (hn : u.length < 1000000) : Ok (m_live_arcs web u) (LiveOk web.2.2 u) := by
  rw [m_live_arcs_eq]
  unfold b_live_arcs
  simp only [ok_bind, ok_pure]
  refine ok_comp (fun p => decide (0 < p.2)) (fun p => p.1) (fun _ _ => rfl) (fun _ _ _ => rfl) ?_
  obtain ⟨nd0, mem0⟩ := live0 u
  generalize ((enumL u).filter fun p => decide (0 < p.2)).map (fun p => p.1) = L0 at nd0 mem0
  have len0 : L0.length ≤ u.length := by
    have h1 : ∀ x ∈ L0, x ∈ upto u.length := fun x hx => upto_mem.mpr ⟨((mem0 x).mp hx).1, ((mem0 x).mp hx).2.1⟩
    have := nodup_le L0 (upto u.length) nd0 h1
    rwa [upto_len] at this
  refine ok_while (fun m s => s.2.Nodup ∧ (∀ x ∈ s.2, 0 ≤ x ∧ x < u.length ∧ 0 < gA u x.toNat) ∧ (∀ S, ClosedS web.2.2 u S → ∀ x, S x → x ∈ s.2) ∧ (s.1 = false → ∀ x ∈ s.2, ∃ y ∈ s.2, tA web.2.2 y = hA web.2.2 x) ∧ m = s.2.length + (if s.1 = true then 1 else 0)) (L0.length + 1) (by unfold FUEL; omega)
    ⟨nd0, fun x hx => (mem0 x).mp hx, fun S hS x hx => (mem0 x).mpr ⟨(hS x hx).1, (hS x hx).2.1, (hS x hx).2.2.1⟩, (fun z => nomatch z), rfl⟩ ?_
  rintro m ⟨ch, L⟩ ⟨nd, pos, all, go, em⟩
  simp only at nd pos all go em ⊢
  refine ok_pure.mpr ⟨fun e => ⟨nd, pos, go e, all⟩, fun e => ?_⟩
  subst e
  simp only [ok_bind, ok_pure]
  have at_ : ∀ x ∈ L, idx web.2.2 x = pure (gA web.2.2 x.toNat) := fun x hx => idx_at (pos x hx).1 (by rw [hl]; exact (pos x hx).2.1)
  refine ok_map (tA web.2.2) (fun x hx => by rw [at_ x hx]; rfl) ?_
  refine ok_comp (fun x => decide (hA web.2.2 x ∈ L.map (tA web.2.2))) (fun x => x) (fun x hx => by rw [at_ x hx]; rfl) (fun _ _ _ => rfl) ?_
  rw [List.map_id']
  have sub : ∀ x ∈ L.filter (fun x => decide (hA web.2.2 x ∈ L.map (tA web.2.2))), x ∈ L ∧ hA web.2.2 x ∈ L.map (tA web.2.2) := fun x hx => by simpa using hx
  have le : (L.filter fun x => decide (hA web.2.2 x ∈ L.map (tA web.2.2))).length ≤ L.length := List.length_filter_le _ _
  refine ⟨_, ?_, nd.filter _, fun x hx => pos x (sub x hx).1, fun S hS x hx => ?_, fun e => ?_, rfl⟩
  · rw [if_pos rfl] at em
    split
    · rename_i h
      have h2 := of_decide_eq_true h
      omega
    · omega
  · obtain ⟨_, _, _, y, hy, ey⟩ := hS x hx
    simp only [List.mem_filter, decide_eq_true_eq]
    exact ⟨all S hS x hx, List.mem_map.mpr ⟨y, all S hS y hy, ey⟩⟩
  · have el : L.filter (fun x => decide (hA web.2.2 x ∈ L.map (tA web.2.2))) = L := by
      have h1 : (L.filter fun x => decide (hA web.2.2 x ∈ L.map (tA web.2.2))).length = L.length := by
        have := of_decide_eq_false e
        omega
      exact (List.filter_sublist).eq_of_length h1
    rw [el] at sub ⊢
    intro x hx
    obtain ⟨y, hy, ey⟩ := List.mem_map.mp (sub x hx).2
    exact ⟨y, hy, ey⟩
/-! ### the next arc, a ring -/
theorem next_ok {web : Web3} {u L : List Int} (hl : web.2.2.length = u.length) (h : LiveOk web.2.2 u L) {x : Int} (hx : x ∈ L) : Ok (m_next_arc web L x) fun y => y ∈ L ∧ tA web.2.2 y = hA web.2.2 x := by
  rw [m_next_arc_eq]
  unfold b_next_arc
  simp only [ok_bind]
  have at_ : ∀ x ∈ L, idx web.2.2 x = pure (gA web.2.2 x.toNat) := fun x hx => idx_at (h.pos x hx).1 (by rw [hl]; exact (h.pos x hx).2.1)
  refine ok_comp (fun y => decide (tA web.2.2 y = hA web.2.2 x)) (fun y => y) (fun y hy => by rw [at_ y hy, at_ x hx]; rfl) (fun _ _ _ => rfl) ?_
  rw [List.map_id']
  obtain ⟨y, hy, ey⟩ := h.go x hx
  have hm : y ∈ L.filter (fun y => decide (tA web.2.2 y = hA web.2.2 x)) := by
    simp only [List.mem_filter, decide_eq_true_eq]
    exact ⟨hy, ey⟩
  have hp := List.length_pos_of_mem hm
  have hi := idx_gA hp
  refine ⟨_, hi, ?_⟩
  have := gA_mem hp
  simp only [List.mem_filter, decide_eq_true_eq] at this
  exact this
/-- arcs, each one's head the tail of the next, the last one's that of the first -/
structure Ring (A : List (Int × Int × Int)) (L : List Int) (W : List Int) : Prop where
  nd : W.Nodup
  ne : 0 < W.length
  sub : ∀ x ∈ W, x ∈ L
  step : ∀ i, i + 1 < W.length → hA A (gA W i) = tA A (gA W (i + 1))
  last : hA A (gA W (W.length - 1)) = tA A (gA W 0)
theorem found_ok {web : Web3} {u L : List Int} (hl : web.2.2.length = u.length) (hn : u.length < 1000000) (h : LiveOk web.2.2 u L) (hL : L ≠ []) : Ok (m_found_ring web L) (Ring web.2.2 L) := by
  rw [m_found_ring_eq]
  unfold b_found_ring
  have lp : 0 < L.length := List.length_pos_iff.mpr hL
  have m0 : gA L 0 ∈ L := gA_mem lp
  have i0 : idx L 0 = pure (gA L 0) := idx_gA lp
  have lenL : L.length ≤ u.length := by
    have := nodup_le L (upto u.length) h.nd fun x hx => upto_mem.mpr ⟨(h.pos x hx).1, (h.pos x hx).2.1⟩
    rwa [upto_len] at this
  simp only [ok_bind]
  rw [i0]
  simp only [ok_pure]
  refine (next_ok hl h m0).imp fun y ⟨hy, ey⟩ => ?_
  refine ok_while (fun m s => s.2.Nodup ∧ 0 < s.2.length ∧ (∀ x ∈ s.2, x ∈ L) ∧ s.1 ∈ L ∧ (∀ i, i + 1 < s.2.length → hA web.2.2 (gA s.2 i) = tA web.2.2 (gA s.2 (i + 1))) ∧ hA web.2.2 (gA s.2 (s.2.length - 1)) = tA web.2.2 s.1 ∧ m + s.2.length = L.length + 1) L.length (by unfold FUEL; omega) ?_ ?_
  · refine ⟨by simp, by simp, fun x hx => ?_, hy, fun i hi => ?_, ?_, by simp⟩
    · simp only [List.mem_singleton] at hx
      rw [hx]
      exact m0
    · simp at hi
    · show hA web.2.2 (gA [gA L 0] 0) = _
      rw [gA_of (xs := [gA L 0]) (k := 0) rfl]
      exact ey.symm
  · rintro m ⟨x, W⟩ ⟨nd, ne, sub, hx, step, last, em⟩
    simp only at nd ne sub hx step last em ⊢
    refine ok_pure.mpr ⟨fun e => ?_, fun e => ?_⟩
    · have hm : x ∈ W := by simpa using e
      have lt : W.findIdx (fun y => decide (y = x)) < W.length := List.findIdx_lt_length_of_exists ⟨x, hm, by simp⟩
      generalize hp : W.findIdx (fun y => decide (y = x)) = p at lt
      have hpx : gA W p = x := by
        have := List.findIdx_getElem (xs := W) (p := fun y => decide (y = x)) (w := by rw [hp]; exact lt)
        simp only [hp, decide_eq_true_eq] at this
        rw [gA_of (List.getElem?_eq_getElem lt)]
        exact this
      have hi : indexO W x = pure (p : Int) := by
        unfold indexO
        rw [if_pos hm, hp]
      rw [hi]
      simp only [ok_pure]
      rw [cut_drop]
      refine ⟨nd.sublist (List.drop_sublist _ _), by rw [List.length_drop]; omega, fun z hz => sub z (List.mem_of_mem_drop hz), fun i hi => ?_, ?_⟩
      · rw [List.length_drop] at hi
        rw [gA_drop, gA_drop]
        exact step (p + i) (by omega)
      · rw [gA_drop, gA_drop, List.length_drop, show p + (W.length - p - 1) = W.length - 1 by omega, last, Nat.add_zero, hpx]
    · have hm : x ∉ W := by simpa using e
      have lw : W.length ≤ L.length := nodup_le W L nd sub
      have nd2 : (W ++ [x]).Nodup := by
        rw [List.nodup_append]
        refine ⟨nd, by simp, fun a ha b hb => ?_⟩
        simp only [List.mem_singleton] at hb
        rw [hb]
        exact fun z => hm (z ▸ ha)
      have sub2 : ∀ z ∈ W ++ [x], z ∈ L := fun z hz => by
        rcases List.mem_append.mp hz with q | q
        · exact sub z q
        · simp only [List.mem_singleton] at q
          rw [q]
          exact hx
      have lw2 : (W ++ [x]).length ≤ L.length := nodup_le _ L nd2 sub2
      rw [List.length_append, List.length_singleton] at lw2
      rw [pbind, appO_ok (by omega), pbind]
      refine ok_bind.mpr ((next_ok hl h hx).imp fun z ⟨hz, ez⟩ => ok_pure.mpr ⟨m - 1, by omega, nd2, by simp, sub2, hz, fun i hi => ?_, ?_, by simp; omega⟩)
      · simp only [List.length_append, List.length_singleton] at hi
        rw [gA_app_l (by omega)]
        by_cases c : i + 1 < W.length
        · rw [gA_app_l c]
          exact step i c
        · rw [gA_app_r (by omega), show i + 1 - W.length = 0 by omega, gA_of (xs := [x]) (k := 0) rfl, ← last]
          congr 2
          omega
      · simp only [List.length_append, List.length_singleton]
        rw [gA_app_r (by omega), show W.length + 1 - 1 - W.length = 0 by omega, gA_of (xs := [x]) (k := 0) rfl]
        exact ez.symm

/-! without_rings -/
def outA (A : List (Int × Int × Int)) (u : List Int) (v : Int) : Int := sumTo u.length fun k => if (gA A k).1 = v then gA u k else 0
def innA (A : List (Int × Int × Int)) (u : List Int) (v : Int) : Int := sumTo u.length fun k => if (gA A k).2.1 = v then gA u k else 0
def NoRing (A : List (Int × Int × Int)) (u : List Int) : Prop := ∀ S, ClosedS A u S → ∀ x, ¬ S x
structure LessOk (A : List (Int × Int × Int)) (u r : List Int) : Prop where
  len : r.length = u.length
  bd : ∀ k, k < u.length → 0 ≤ gA r k ∧ gA r k ≤ gA u k
  bal : ∀ v, outA A r v - innA A r v = outA A u v - innA A u v
  same : NoRing A u → r = u
/-- a walk of subtractions along R -/
theorem sub_loop {A : List (Int × Int × Int)} {u R : List Int} {a : Int} (hR : ∀ x ∈ R, 0 ≤ x ∧ x < u.length) (hnd : R.Nodup) :
    Ok (forO (fun (s5 : (List Int)) (x6 : Int) =>
(pure (s5, fun b => b) : Out (List Int × (List Int → List Int))) >>= fun r7 => (pure x6) >>= fun j8 => idx r7.1 j8 >>= fun x9 => (pure a) >>= fun y10 => setO r7.1 j8 (x9 - y10) >>= fun l11 =>
pure (r7.2 l11)) R u) fun s => s.length = u.length ∧ (∀ k, k < u.length → gA s k = gA u k - (if (k : Int) ∈ R then a else 0)) ∧ (∀ v, outA A s v = outA A u v - a * ((R.map (tA A)).count v : Nat)) ∧ ∀ v, innA A s v = innA A u v - a * ((R.map (hA A)).count v : Nat) := by
  refine ok_for (fun i s => s.length = u.length ∧ (∀ k, k < u.length → gA s k = gA u k - (if (k : Int) ∈ R.take i then a else 0)) ∧ (∀ v, outA A s v = outA A u v - a * (((R.take i).map (tA A)).count v : Nat)) ∧ ∀ v, innA A s v = innA A u v - a * (((R.take i).map (hA A)).count v : Nat))
    ⟨rfl, fun k hk => by simp, fun v => by simp, fun v => by simp⟩ (fun i s x hx ⟨hl, hk, ho, hi⟩ => ?_) (fun s h => by rwa [List.take_length] at h)
  obtain ⟨x0, x1⟩ := hR x (List.mem_of_getElem? hx)
  have ix : ((x.toNat : Nat) : Int) = x := Int.toNat_of_nonneg x0
  have lt : x.toNat < s.length := by omega
  have et : R.take (i + 1) = R.take i ++ [x] := by rw [List.take_add_one, hx]; rfl
  have hnot : x ∉ R.take i := fun z => by
    obtain ⟨j, hj⟩ := List.mem_iff_getElem?.mp z
    have hj1 := (List.getElem?_eq_some_iff.mp hj).1
    have hji : j < i := by
      rw [List.length_take] at hj1
      omega
    rw [List.getElem?_take_of_lt hji] at hj
    have h1 := gA_of hj
    have h2 := gA_of hx
    have hi' := (List.getElem?_eq_some_iff.mp hx).1
    have := nodup_gA hnd (i := j) (j := i) (by omega) hi' (h1.trans h2.symm)
    omega
  rw [pbind, pbind]
  have xs1 : x < s.length := by omega
  rw [idx_at x0 xs1, pbind, pbind, setO_at x0 xs1, pbind, ok_pure]
  have gs : ∀ k, gA (s.set x.toNat (gA s x.toNat - a)) k = if x.toNat = k then gA s x.toNat - a else gA s k := fun k => gA_set lt
  have gen : ∀ (F : Nat → Bool), sumTo (s.set x.toNat (gA s x.toNat - a)).length (fun k => if F k = true then gA (s.set x.toNat (gA s x.toNat - a)) k else 0) = sumTo s.length (fun k => if F k = true then gA s k else 0) - (if F x.toNat = true then a else 0) := fun F => by
    rw [List.length_set, sumTo_upd (g := fun k => if F k = true then gA s k else 0) lt (fun k _ hk => by
      have e := gs k
      rw [if_neg (fun z => hk z.symm)] at e
      simp only [e])]
    have e := gs x.toNat
    rw [if_pos rfl] at e
    simp only [e]
    split <;> omega
  refine ⟨by rw [List.length_set]; exact hl, fun k hkl => ?_, fun v => ?_, fun v => ?_⟩
  · rw [gs, et]
    by_cases c : x.toNat = k
    · subst c
      rw [if_pos rfl, hk _ hkl, ix, if_neg hnot, if_pos (by simp)]
      omega
    · rw [if_neg c, hk _ hkl]
      congr 1
      have ne : (k : Int) ≠ x := fun z => c (by omega)
      simp [ne]
  · have e := gen (fun k => decide ((gA A k).1 = v))
    simp only [decide_eq_true_eq] at e
    unfold outA
    rw [e, et, List.map_append, List.count_append]
    have h1 : sumTo s.length (fun k => if (gA A k).1 = v then gA s k else 0) = outA A s v := rfl
    rw [h1, ho v]
    have h2 : List.count v (List.map (tA A) [x]) = if (gA A x.toNat).1 = v then 1 else 0 := by
      simp only [List.map_cons, List.map_nil, List.count_cons, List.count_nil, tA]
      by_cases c : (gA A x.toNat).1 = v <;> simp [c]
    rw [h2]
    show _ = outA A u v - _
    by_cases c : (gA A x.toNat).1 = v
    · rw [if_pos c, if_pos c, Int.natCast_add, Int.mul_add]
      omega
    · rw [if_neg c, if_neg c, Nat.add_zero]
      omega
  · have e := gen (fun k => decide ((gA A k).2.1 = v))
    simp only [decide_eq_true_eq] at e
    unfold innA
    rw [e, et, List.map_append, List.count_append]
    have h1 : sumTo s.length (fun k => if (gA A k).2.1 = v then gA s k else 0) = innA A s v := rfl
    rw [h1, hi v]
    have h2 : List.count v (List.map (hA A) [x]) = if (gA A x.toNat).2.1 = v then 1 else 0 := by
      simp only [List.map_cons, List.map_nil, List.count_cons, List.count_nil, hA]
      by_cases c : (gA A x.toNat).2.1 = v <;> simp [c]
    rw [h2]
    show _ = innA A u v - _
    by_cases c : (gA A x.toNat).2.1 = v
    · rw [if_pos c, if_pos c, Int.natCast_add, Int.mul_add]
      omega
    · rw [if_neg c, if_neg c, Nat.add_zero]
      omega
theorem Ring.rot {A : List (Int × Int × Int)} {L W : List Int} (h : Ring A L W) : W.map (hA A) = (W.map (tA A)).drop 1 ++ (W.map (tA A)).take 1 := by
  have ne := h.ne
  refine gA_ext (by simp; omega) fun k hk => ?_
  rw [List.length_map] at hk
  rw [gA_map hk]
  by_cases c : k + 1 < W.length
  · rw [gA_app_l (by simp; omega), gA_drop, gA_map (by omega), Nat.add_comm 1 k]
    exact h.step k c
  · have ek : k = W.length - 1 := by omega
    rw [gA_app_r (by simp; omega), List.length_drop, List.length_map, gA_take (by omega), gA_map (by omega), show k - (W.length - 1) = 0 by omega, ek]
    exact h.last
theorem Ring.count {A : List (Int × Int × Int)} {L W : List Int} (h : Ring A L W) (v : Int) : (W.map (hA A)).count v = (W.map (tA A)).count v := by
  rw [h.rot, List.count_append, Nat.add_comm, ← List.count_append, List.take_append_drop]
def posN (u : List Int) : Int := sumTo u.length fun k => if 0 < gA u k then 1 else 0
theorem without_gen {web : Web3} {u : List Int} (hl : web.2.2.length = u.length) (hn : u.length < 1000000) (hu : ∀ k, k < u.length → 0 ≤ gA u k) : Ok (b_without_rings web u) fun r => LessOk web.2.2 u r ∧ NoRing web.2.2 r := by
  unfold b_without_rings
  simp only [ok_bind, ok_pure]
  have pn : 0 ≤ posN u := sumTo_nonneg fun k _ => by split <;> omega
  have pn2 : posN u ≤ u.length := by
    have := sumTo_le (f := fun k => if 0 < gA u k then 1 else 0) (g := fun _ => 1) (n := u.length) fun k _ => by
      split <;> omega
    have e : ∀ n : Nat, sumTo n (fun _ => 1) = n := fun n => by
      induction n with
      | zero => rfl
      | succ n ih => show sumTo n (fun _ => 1) + 1 = _; rw [ih]; omega
    rw [e] at this
    exact this
  refine (live_arcs_ok hl hn).imp fun live hlive => ?_
  refine ok_while (fun m s => LiveOk web.2.2 s.2 s.1 ∧ LessOk web.2.2 u s.2 ∧ (m : Int) = posN s.2) (posN u).toNat (by unfold FUEL; have := Int.toNat_of_nonneg pn; omega) ⟨hlive, ⟨rfl, fun k hk => ⟨hu k hk, Int.le_refl _⟩, fun _ => rfl, fun _ => rfl⟩, by show ((posN u).toNat : Int) = posN u; omega⟩ ?_
  rintro m ⟨L, left⟩ ⟨hL, hs, em⟩
  simp only at hL hs em ⊢
  refine ok_pure.mpr ⟨fun e => ⟨hs, fun S hS x hx => ?_⟩, fun e => ?_⟩
  · have eL : L = [] := by simpa using e
    have := hL.all S hS x hx
    rw [eL] at this
    cases this
  · have neL : L ≠ [] := by simpa using e
    have hl2 : web.2.2.length = left.length := by rw [hs.len]; exact hl
    have hn2 : left.length < 1000000 := by rw [hs.len]; exact hn
    simp only [ok_bind]
    refine (found_ok hl2 hn2 hL neL).imp fun R hR => ?_
    have hRp : ∀ x ∈ R, 0 ≤ x ∧ x < left.length ∧ 0 < gA left x.toNat := fun x hx => hL.pos x (hR.sub x hx)
    refine ok_map (fun x => gA left x.toNat) (fun x hx => idx_at (hRp x hx).1 (hRp x hx).2.1) ?_
    have neR : R.map (fun x => gA left x.toNat) ≠ [] := by
      intro z
      have h1 := congrArg List.length z
      have h2 := hR.ne
      rw [List.length_map, List.length_nil] at h1
      omega
    refine (minL_is neR).imp fun a ⟨ha, hle⟩ => ?_
    obtain ⟨x0, hx0, ex0⟩ := List.mem_map.mp ha
    have apos : 0 < a := by rw [← ex0]; exact (hRp x0 hx0).2.2
    simp only [ok_pure]
    refine (sub_loop (A := web.2.2) (u := left) (a := a) (fun x hx => ⟨(hRp x hx).1, (hRp x hx).2.1⟩) hR.nd).imp fun s ⟨sl, sk, so, si⟩ => ?_
    have bd : ∀ k, k < left.length → 0 ≤ gA s k ∧ gA s k ≤ gA left k := fun k hk => by
      rw [sk k hk]
      by_cases c : (k : Int) ∈ R
      · rw [if_pos c]
        have := hle (gA left k) (List.mem_map.mpr ⟨k, c, by simp⟩)
        omega
      · rw [if_neg c]
        have := (hs.bd k (by rw [← hs.len]; exact hk)).1
        omega
    have hs2 : LessOk web.2.2 u s := ⟨sl.trans hs.len, fun k hk => by
      have h1 := hs.bd k hk
      have h2 := bd k (by rw [hs.len]; exact hk)
      omega, fun v => by
      rw [so v, si v, hR.count v, ← hs.bal v]
      omega, fun nr => by
      exfalso
      have e := hs.same nr
      subst e
      exact nr (fun x => x ∈ L) (fun x hx => ⟨(hL.pos x hx).1, (hL.pos x hx).2.1, (hL.pos x hx).2.2, hL.go x hx⟩) (gA L 0) (gA_mem (List.length_pos_iff.mpr neL))⟩
    refine (live_arcs_ok (by rw [hl, ← hs2.len]) (by rw [hs2.len]; exact hn)).imp fun L2 hL2 => ?_
    have hx0' := hRp x0 hx0
    have lt0 : x0.toNat < left.length := by omega
    have dec : posN s + 1 ≤ posN left := by
      unfold posN
      rw [sl]
      refine sumTo_lt lt0 (fun k hk => ?_) ?_
      · have := bd k hk
        split
        · rw [if_pos (by omega)]
          exact Int.le_refl _
        · split <;> omega
      · have e1 : gA s x0.toNat = 0 := by
          rw [sk _ lt0, if_pos (by rw [Int.toNat_of_nonneg hx0'.1]; exact hx0), ex0]
          omega
        rw [e1, if_neg (by omega), if_pos hx0'.2.2]
        omega
    have p0 : 0 ≤ posN s := sumTo_nonneg fun k _ => by split <;> omega
    refine ⟨(posN s).toNat, by omega, hL2, hs2, by omega⟩
theorem without_ok {web : Web3} {u : List Int} (hl : web.2.2.length = u.length) (hn : u.length < 1000000) (hu : ∀ k, k < u.length → 0 ≤ gA u k) : Ok (m_without_rings web u) fun r => LessOk web.2.2 u r ∧ NoRing web.2.2 r := by
  rw [m_without_rings_eq]
  exact without_gen hl hn hu
theorem without_same (web : Web3) (u : List Int) : m_without_ringsT web u = m_without_rings web u := by
  rw [m_without_ringsT_eq, m_without_rings_eq]
  rfl

/-! the law's arcs; has_ring, sums, right, asked -/
structure Lk (arcs : List (List Int)) (A : List (Int × Int × Int)) (n : Nat) : Prop where
  len : arcs.length = A.length
  lt : A.length < 1000000
  cn : n < 1000000
  i0 : ∀ k, k < A.length → idx (gA arcs k) 0 = pure (gA A k).1
  i1 : ∀ k, k < A.length → idx (gA arcs k) 1 = pure (gA A k).2.1
  t0 : ∀ k, k < A.length → 0 ≤ (gA A k).1 ∧ (gA A k).1 < n
  h0 : ∀ k, k < A.length → 0 ≤ (gA A k).2.1 ∧ (gA A k).2.1 < n
def tailN (n : Nat) (A : List (Int × Int × Int)) (L : List Int) : Int := sumTo n fun v => if (v : Int) ∈ L.map (tA A) then 1 else 0
theorem sumTo_ones : ∀ n : Nat, sumTo n (fun _ => 1) = n
  | 0 => rfl
  | n + 1 => by
    show sumTo n (fun _ => 1) + 1 = _
    rw [sumTo_ones n]
    omega
theorem tails_ok {n : Nat} {arcs : List (List Int)} {A : List (Int × Int × Int)} (K : Lk arcs A n) {L : List Int} (hL : ∀ x ∈ L, 0 ≤ x ∧ x < A.length) :
    Ok (forO (fun (s9 : (List Bool)) (x10 : Int) =>
(pure true : Out Bool) >>= fun a12 => ((idx arcs x10) >>= fun t11 => idx t11 0) >>= fun j13 => setO s9 j13 a12 >>= fun tails =>
pure tails) L (List.replicate n false)) fun s => s.length = n ∧ ∀ v, v < n → gA s v = decide ((v : Int) ∈ L.map (tA A)) := by
  refine ok_for (fun i s => s.length = n ∧ ∀ v, v < n → gA s v = decide ((v : Int) ∈ (L.take i).map (tA A))) ⟨by simp, fun v hv => by simp [gA_rep hv]⟩ (fun i s x hx ⟨hl, hv⟩ => ?_) (fun s h => by rwa [List.take_length] at h)
  obtain ⟨x0, x1⟩ := hL x (List.mem_of_getElem? hx)
  have xl : x.toNat < A.length := by omega
  have ia : idx arcs x = pure (gA arcs x.toNat) := idx_at x0 (by rw [K.len]; exact x1)
  obtain ⟨t0, t1⟩ := K.t0 _ xl
  have et : L.take (i + 1) = L.take i ++ [x] := by rw [List.take_add_one, hx]; rfl
  have lt : (gA A x.toNat).1.toNat < s.length := by omega
  rw [pbind, ia, pbind, K.i0 _ xl, pbind, setO_at t0 (show (gA A x.toNat).1 < (s.length : Int) by omega), pbind, ok_pure]
  refine ⟨by rw [List.length_set]; exact hl, fun v hvn => ?_⟩
  have e := gA_set (xs := s) (a := true) (j := v) lt
  rw [e, et]
  have ex : tA A x = (gA A x.toNat).1 := rfl
  by_cases c : (gA A x.toNat).1.toNat = v
  · rw [if_pos c]
    have : (v : Int) = tA A x := by rw [ex]; omega
    simp [this]
  · rw [if_neg c, hv v hvn]
    have ne : ¬ (v : Int) = tA A x := by rw [ex]; omega
    simp [ne]
theorem ring_ok {n : Nat} {arcs : List (List Int)} {A : List (Int × Int × Int)} (K : Lk arcs A n) {u : List Int} (hu : u.length = A.length) : Ok (b_law_has_ring (n : Int) arcs u) fun b => b = false ↔ NoRing A u := by
  unfold b_law_has_ring
  have Kl := K.len
  have Kt := K.lt
  have Kn := K.cn
  have rn : rangeO (n : Int) = pure (upto n) := rangeO_nat (by omega)
  simp only [ok_bind, ok_pure]
  refine ok_comp (fun k => decide (0 < gA u k.toNat)) (fun k => k) (fun k hk => by
    have := upto_mem.mp hk
    rw [idx_at this.1 (by omega)]
    rfl) (fun _ _ _ => rfl) ?_
  rw [List.map_id', rn]
  simp only [ok_pure]
  have mem0 : ∀ x : Int, x ∈ (upto arcs.length).filter (fun k => decide (0 < gA u k.toNat)) ↔ 0 ≤ x ∧ x < u.length ∧ 0 < gA u x.toNat := fun x => by
    simp only [List.mem_filter, upto_mem, decide_eq_true_eq]
    rw [hu, ← Kl]
    exact and_assoc
  generalize (upto arcs.length).filter (fun k => decide (0 < gA u k.toNat)) = L0 at mem0
  refine ok_for (fun i L => (∀ x ∈ L, 0 ≤ x ∧ x < u.length ∧ 0 < gA u x.toNat) ∧ (∀ S, ClosedS A u S → ∀ x, S x → x ∈ L) ∧ ((∀ x ∈ L, ∃ y ∈ L, tA A y = hA A x) ∨ tailN n A L + i ≤ n)) ?_ (fun i L x hx ⟨pos, all, go⟩ => ?_) (fun L ⟨pos, all, go⟩ => ?_)
  · refine ⟨fun x hx => (mem0 x).mp hx, fun S hS x hx => (mem0 x).mpr ⟨(hS x hx).1, (hS x hx).2.1, (hS x hx).2.2.1⟩, .inr ?_⟩
    have := sumTo_le (f := fun v : Nat => if (v : Int) ∈ L0.map (tA A) then (1 : Int) else 0) (g := fun _ => 1) (n := n) fun k _ => by split <;> omega
    rw [sumTo_ones] at this
    unfold tailN
    omega
  · simp only [ok_bind, ok_pure]
    refine ok_map (fun _ => false) (fun _ _ => rfl) ?_
    rw [map_const, upto_len]
    have posA : ∀ x ∈ L, 0 ≤ x ∧ x < A.length := fun x hx => ⟨(pos x hx).1, by rw [← hu]; exact (pos x hx).2.1⟩
    refine (tails_ok K posA).imp fun tl ⟨tlen, tv⟩ => ?_
    refine ok_comp (fun x => decide (hA A x ∈ L.map (tA A))) (fun x => x) (fun x hx => by
      obtain ⟨x0, x1⟩ := posA x hx
      have xl : x.toNat < A.length := by omega
      obtain ⟨h0, h1⟩ := K.h0 _ xl
      rw [idx_at x0 (show x < (arcs.length : Int) by omega), pbind, K.i1 _ xl, pbind, idx_at h0 (by omega), tv _ (by omega), Int.toNat_of_nonneg h0]
      rfl) (fun _ _ _ => rfl) ?_
    rw [List.map_id']
    have sub : ∀ x ∈ L.filter (fun x => decide (hA A x ∈ L.map (tA A))), x ∈ L ∧ hA A x ∈ L.map (tA A) := fun x hx => by simpa using hx
    have mem : ∀ x ∈ L, hA A x ∈ L.map (tA A) → x ∈ L.filter (fun x => decide (hA A x ∈ L.map (tA A))) := fun x h1 h2 => by
      simp only [List.mem_filter, decide_eq_true_eq]
      exact ⟨h1, h2⟩
    generalize L.filter (fun x => decide (hA A x ∈ L.map (tA A))) = L2 at sub mem
    refine ⟨fun x hx => pos x (sub x hx).1, fun S hS x hx => ?_, ?_⟩
    · obtain ⟨_, _, _, y, hy, ey⟩ := hS x hx
      exact mem x (all S hS x hx) (List.mem_map.mpr ⟨y, all S hS y hy, ey⟩)
    · rcases go with go | go
      · refine .inl fun x hx => ?_
        obtain ⟨y, hy, ey⟩ := go x (sub x hx).1
        obtain ⟨z, hz, ez⟩ := go y hy
        exact ⟨y, mem y hy (List.mem_map.mpr ⟨z, hz, ez⟩), ey⟩
      · by_cases c : ∀ y ∈ L, ∃ z ∈ L2, tA A z = tA A y
        · refine .inl fun x hx => ?_
          obtain ⟨y, hy, ey⟩ := List.mem_map.mp (sub x hx).2
          obtain ⟨z, hz, ez⟩ := c y hy
          exact ⟨z, hz, ez.trans ey⟩
        · have ⟨y, hy⟩ := Classical.not_forall.mp c
          have ⟨hy, no⟩ := Classical.not_imp.mp hy
          obtain ⟨y0, y1⟩ := posA y hy
          obtain ⟨t0, t1⟩ := K.t0 y.toNat (by omega)
          have st : tailN n A L2 + 1 ≤ tailN n A L := by
            refine sumTo_lt (j := (gA A y.toNat).1.toNat) (by omega) (fun v _ => ?_) ?_
            · by_cases d : (v : Int) ∈ L2.map (tA A)
              · obtain ⟨z, hz, ez⟩ := List.mem_map.mp d
                rw [if_pos d, if_pos (List.mem_map.mpr ⟨z, (sub z hz).1, ez⟩)]
                exact Int.le_refl _
              · rw [if_neg d]
                split <;> omega
            · have et : tA A y = (gA A y.toNat).1 := rfl
              rw [if_neg (fun d => ?_), if_pos (List.mem_map.mpr ⟨y, hy, by rw [et]; omega⟩)]
              · omega
              · obtain ⟨z, hz, ez⟩ := List.mem_map.mp d
                exact no ⟨z, hz, by rw [ez, et]; omega⟩
          refine .inr ?_
          omega
  · have go2 : ∀ x ∈ L, ∃ y ∈ L, tA A y = hA A x := by
      rcases go with go | go
      · exact go
      · rw [upto_len] at go
        intro x hx
        exfalso
        obtain ⟨x0, x1, _⟩ := pos x hx
        obtain ⟨t0, t1⟩ := K.t0 x.toNat (by omega)
        have et : tA A x = (gA A x.toNat).1 := rfl
        have := sumTo_lt (f := fun _ => 0) (g := fun v : Nat => if (v : Int) ∈ L.map (tA A) then (1 : Int) else 0) (n := n) (j := (gA A x.toNat).1.toNat) (by omega) (fun k _ => by split <;> omega) (by
          rw [if_pos (List.mem_map.mpr ⟨x, hx, by rw [et]; omega⟩)]
          omega)
        rw [sumTo_zero] at this
        unfold tailN at go
        omega
    have hS : ClosedS A u fun x => x ∈ L := fun x hx => ⟨(pos x hx).1, (pos x hx).2.1, (pos x hx).2.2, go2 x hx⟩
    constructor
    · intro e S hS2 x hx
      have hm := all S hS2 x hx
      have := List.length_pos_of_mem hm
      have := of_decide_eq_false e
      omega
    · intro nr
      refine decide_eq_false fun h => ?_
      have lp : 0 < L.length := by omega
      exact nr _ hS (gA L 0) (gA_mem lp)
theorem has_ring_ok {n : Nat} {arcs : List (List Int)} {A : List (Int × Int × Int)} (K : Lk arcs A n) {u : List Int} (hu : u.length = A.length) : Ok (m_law_has_ring (n : Int) arcs u) fun b => b = false ↔ NoRing A u := by
  rw [m_law_has_ring_eq]
  exact ring_ok K hu
theorem has_ring_same : m_law_has_ringT = m_law_has_ring := by
  rw [m_law_has_ringT_eq, m_law_has_ring_eq]
  rfl
/-! ### sums -/
theorem sums_gen {n : Nat} {arcs : List (List Int)} {A : List (Int × Int × Int)} (K : Lk arcs A n) {u : List Int} (hu : u.length = A.length) : Ok (b_law_sums (n : Int) arcs u) fun s => s.1.length = n ∧ s.2.length = n ∧ ∀ v, v < n → gA s.1 v = innA A u v ∧ gA s.2 v = outA A u v := by
  unfold b_law_sums
  have Kl := K.len
  have Kt := K.lt
  have Kn := K.cn
  have rn : rangeO (n : Int) = pure (upto n) := rangeO_nat (by omega)
  simp only [ok_bind, ok_pure, rn]
  refine ok_map (fun _ => 0) (fun _ _ => rfl) (ok_map (fun _ => 0) (fun _ _ => rfl) ?_)
  rw [map_const, upto_len]
  refine ok_for (fun i s => s.1.length = n ∧ s.2.length = n ∧ ∀ v : Nat, v < n → gA s.1 v = sumTo i (fun k => if (gA A k).2.1 = (v : Int) then gA u k else 0) ∧ gA s.2 v = sumTo i (fun k => if (gA A k).1 = (v : Int) then gA u k else 0))
    ⟨by simp, by simp, fun v hv => by rw [gA_rep hv]; exact ⟨rfl, rfl⟩⟩ (fun i s x hx ⟨l1, l2, hv⟩ => ?_) (fun s ⟨l1, l2, hv⟩ => ?_)
  · obtain ⟨rfl, hi⟩ := upto_at hx
    have il : i < A.length := by omega
    obtain ⟨t0, t1⟩ := K.t0 i il
    obtain ⟨h0, h1⟩ := K.h0 i il
    have iu : idx u (i : Int) = pure (gA u i) := idx_gA (by omega)
    have ia : idx arcs (i : Int) = pure (gA arcs i) := idx_gA (by omega)
    rw [ia, pbind, K.i1 i il, pbind, idx_at h0 (show (gA A i).2.1 < (s.1.length : Int) by omega), pbind, iu, pbind, pbind, pbind, setO_at h0 (show (gA A i).2.1 < (s.1.length : Int) by omega), pbind]
    rw [pbind, K.i0 i il, pbind, idx_at t0 (show (gA A i).1 < (s.2.length : Int) by omega), pbind, pbind, pbind, pbind, setO_at t0 (show (gA A i).1 < (s.2.length : Int) by omega), pbind, ok_pure]
    refine ⟨by rw [List.length_set]; exact l1, by rw [List.length_set]; exact l2, fun v hvn => ?_⟩
    have e1 := gA_set (xs := s.1) (i := (gA A i).2.1.toNat) (a := gA s.1 (gA A i).2.1.toNat + gA u i) (j := v) (by omega)
    have e2 := gA_set (xs := s.2) (i := (gA A i).1.toNat) (a := gA s.2 (gA A i).1.toNat + gA u i) (j := v) (by omega)
    obtain ⟨v1, v2⟩ := hv v hvn
    constructor
    · show gA (s.1.set _ _) v = sumTo i _ + _
      rw [e1]
      dsimp only
      by_cases c : (gA A i).2.1 = (v : Int)
      · rw [if_pos (by omega), if_pos c, ← v1, show (gA A i).2.1.toNat = v by omega]
      · rw [if_neg (by omega), if_neg c, ← v1, Int.add_zero]
    · show gA (s.2.set _ _) v = sumTo i _ + _
      rw [e2]
      dsimp only
      by_cases c : (gA A i).1 = (v : Int)
      · rw [if_pos (by omega), if_pos c, ← v2, show (gA A i).1.toNat = v by omega]
      · rw [if_neg (by omega), if_neg c, ← v2, Int.add_zero]
  · rw [upto_len, Kl, ← hu] at hv
    exact ⟨l1, l2, hv⟩
theorem sums_ok {n : Nat} {arcs : List (List Int)} {A : List (Int × Int × Int)} (K : Lk arcs A n) {u : List Int} (hu : u.length = A.length) : Ok (m_law_sums (n : Int) arcs u) fun s => s.1.length = n ∧ s.2.length = n ∧ ∀ v, v < n → gA s.1 v = innA A u v ∧ gA s.2 v = outA A u v := by
  rw [m_law_sums_eq]
  exact sums_gen K hu
theorem sums_same : m_law_sumsT = m_law_sums := by
  rw [m_law_sumsT_eq, m_law_sums_eq]
  rfl
/-! ### the law's questions -/
theorem whole_ok (x : Int) : m_law_whole x = pure true := by
  rw [m_law_whole_eq]
  rfl
theorem filter_no {α : Type} (xs : List α) : xs.filter (fun _ => false) = [] := by
  induction xs with
  | nil => rfl
  | cons x xs ih => simpa using ih
theorem numbers_ok (t : List Int) {n : Int} (h : (t.length : Int) = n) : m_law_numbers t n = pure true := by
  rw [m_law_numbers_eq]
  unfold b_law_numbers
  simp only [Bool.not_true, Bool.false_eq_true, if_false, pbind, h, decide_true]
  have : compO (fun number2 => ifO ((m_law_whole number2) >>= fun t3 => pure (!t3)) (pure number2)) t = pure ((t.filter fun _ => false).map fun x => x) := compO_ok t (fun x _ => by rw [whole_ok]; rfl) (fun _ _ _ => rfl)
  rw [this, filter_no, pbind]
  rfl
theorem right_ok {n : Nat} {arcs : List (List Int)} {A : List (Int × Int × Int)} (K : Lk arcs A n) {u r : List Int} (hu : u.length = A.length) (h : LessOk A u r) (nr : NoRing A r) : m_law_right (n : Int) arcs u r = pure true := by
  rw [m_law_right_eq]
  unfold b_law_right
  have Kl := K.len
  have Kt := K.lt
  have Kn := K.cn
  have hr : r.length = A.length := h.len.trans hu
  have rn : rangeO (n : Int) = pure (upto n) := rangeO_nat (by omega)
  rw [numbers_ok r (by omega)]
  simp only [pbind, Bool.not_true, Bool.false_eq_true, if_false]
  have e : compO (fun k3 => ifO (((idx r k3) >>= fun t4 => pure (decide (t4 < 0))) >>= fun t7 => if t7 = true then pure true else (idx r k3) >>= fun t5 => (idx u k3) >>= fun t6 => pure (decide (t6 < t5))) (pure k3)) (upto arcs.length) = pure (((upto arcs.length).filter fun _ => false).map fun x => x) := compO_ok _ (fun k hk => by
    have hk := upto_mem.mp hk
    have ir : idx r k = pure (gA r k.toNat) := idx_at hk.1 (by omega)
    have iu : idx u k = pure (gA u k.toNat) := idx_at hk.1 (by omega)
    have := h.bd k.toNat (by omega)
    simp only [ir, iu, pbind]
    rw [decide_eq_false (show ¬ gA r k.toNat < 0 by omega), decide_eq_false (show ¬ gA u k.toNat < gA r k.toNat by omega)]
    rfl) (fun _ _ _ => rfl)
  rw [e, filter_no, sums_same]
  simp only [List.map_nil, decide_true, Bool.not_true, pbind, Bool.false_eq_true, if_false]
  obtain ⟨o, eo, l1, l2, ov⟩ := sums_ok K hu
  obtain ⟨l, el, l3, l4, lv⟩ := sums_ok K hr
  rw [eo, pbind, el, pbind, rn, pbind]
  refine Ok.eq (ok_bind.mpr (ok_forR (fun _ _ => True) trivial (fun i s x hx _ => ?_) (fun s _ => ?_)))
  · have hx := upto_mem.mp (List.mem_of_getElem? hx)
    rw [idx_at hx.1 (show x < (o.2.length : Int) by omega), idx_at hx.1 (show x < (o.1.length : Int) by omega), idx_at hx.1 (show x < (l.2.length : Int) by omega), idx_at hx.1 (show x < (l.1.length : Int) by omega)]
    obtain ⟨o1, o2⟩ := ov x.toNat (by omega)
    obtain ⟨l1, l2⟩ := lv x.toNat (by omega)
    simp only [pbind, o1, o2, l1, l2]
    rw [decide_eq_true (h.bal _).symm]
    exact ok_pure.mpr trivial
  · dsimp only
    rw [has_ring_same]
    obtain ⟨b, eb, hb⟩ := has_ring_ok K hr
    rw [eb, hb.mpr nr]
    exact ok_pure.mpr rfl
theorem asked_ok {n : Nat} {arcs : List (List Int)} {web : Web3} (K : Lk arcs web.2.2 n) {u : List Int} (hu : u.length = web.2.2.length) (h0 : ∀ k, k < u.length → 0 ≤ gA u k) (listed : Bool) : m_law_asked web (n : Int) arcs u listed = pure true := by
  have Kl := K.len
  have Kt := K.lt
  obtain ⟨r, er, hr, nr⟩ := without_ok (web := web) hu.symm (by omega) h0
  have hrl : r.length = web.2.2.length := hr.len.trans hu
  obtain ⟨s, es, hs, _⟩ := without_ok (web := web) (u := r) hrl.symm (by omega) (fun k hk => (hr.bd k (by rw [← hr.len]; exact hk)).1)
  have e2 := hs.same nr
  subst e2
  obtain ⟨b, eb, hb⟩ := has_ring_ok K hu
  have bc : ((!b) = true ∧ (!decide (s = u)) = true) → False := by
    rintro ⟨h1, h2⟩
    have : b = false := by simpa using h1
    have := hr.same (hb.mp this)
    simp [this] at h2
  rw [m_law_asked_eq]
  unfold b_law_asked
  have ns := numbers_ok s (n := (arcs.length : Int)) (by omega)
  cases listed <;> simp only [without_same, pbind, er, es, right_ok K hu hr nr, eb, ns, Bool.not_true, Bool.false_eq_true, if_false, if_true, decide_true]
  all_goals
    by_cases c : (!b) = true
    · by_cases d : (!decide (s = u)) = true
      · exact (bc ⟨c, d⟩).elim
      · simp only [c, d, if_true, pbind]
        rfl
    · simp only [c, Bool.false_eq_true, if_false, pbind]

/-! the law's own random draws: m_law_cell, m_law_digits -/
theorem cell_ok (ns : List Int) (k : Int) (h0 : 0 ≤ k) (h1 : k < 1000000) : ∃ c, m_law_cell ns k = pure c := by
  rw [m_law_cell_eq]
  unfold b_law_cell
  rw [pbind]
  by_cases c : k < (ns.length : Int)
  · rw [if_pos (decide_eq_true c)]
    obtain ⟨a, e, _⟩ := idx_lt h0 c
    exact ⟨a, e⟩
  · rw [if_neg (by rw [decide_eq_false c]; exact Bool.false_ne_true), pbind, pbind]
    have h := forO_foldl (f := fun (s2 : Int) (x3 : Int) => (pure (((s2 * 31) + (x3 % 1000003)) % 1000003) : Out Int) >>= fun seed => pure seed) (g := fun s x => ((s * 31) + (x % 1000003)) % 1000003) ns 17 (fun _ _ _ => rfl)
    rw [h, pbind, mulO_r (by omega) (by omega)]
    exact ⟨_, rfl⟩
theorem digits_ok (cell : Int) (sizes : List Int) (hs : ∀ s ∈ sizes, 0 < s ∧ s < 1073741824) (hl : sizes.length < 16777216) : ∃ L, m_law_digits cell sizes = pure L ∧ L.length = sizes.length ∧ ∀ (i : Nat) d s, L[i]? = some d → sizes[i]? = some s → 0 ≤ d ∧ d < s := by
  rw [m_law_digits_eq]
  unfold b_law_digits
  rw [pbind, pbind, pbind]
  have hif : ∀ (c : Bool) (a b : Int), (if c = true then ((pure a : Out Int) >>= fun r => pure r) else pure b) = pure (if c = true then a else b) := fun c a b => by cases c <;> rfl
  rw [hif, pbind, pbind, pbind]
  generalize (if decide (1000000000000000000 ≤ cell) = true then _ else (0 : Int)) = r
  have app : ∀ (L : List Int) (x : Int), L.length < 16777216 → appO L x = pure (L ++ [x]) := fun L x h => appO_ok h
  obtain ⟨s', e, h1, h2⟩ := forO_inv0 (f := fun (s3 : Int × Int × (List Int)) (x4 : Int) =>
    (pure ((((s3.1 * 48271) + (974711 * x4)) + 12345) % 2147483647)) >>= fun seed =>
    (((mulO seed ((seed / 65537) + 3)) >>= fun t5 => pure t5) >>= fun t6 => pure (t6 % 2147483629)) >>= fun twice =>
    (pure (decide (0 < s3.2.1))) >>= fun c7 => if c7 = true then (
    ((idx sizes x4) >>= fun t8 => modO s3.2.1 t8) >>= fun a9 => appO s3.2.2 a9 >>= fun row =>
    ((idx sizes x4) >>= fun t10 => divO s3.2.1 t10) >>= fun rest =>
    pure (seed, rest, row))
    else (
    ((idx sizes x4) >>= fun t11 => modO (twice / 19) t11) >>= fun a12 => appO s3.2.2 a12 >>= fun row =>
    pure (seed, s3.2.1, row)))
    (fun i s => s.2.2.length = i ∧ ∀ (j : Nat) d z, s.2.2[j]? = some d → sizes[j]? = some z → 0 ≤ d ∧ d < z) (upto sizes.length) (cell % 2147483629, r, []) ⟨rfl, fun j d z h => by simp at h⟩ (fun i s x hx ⟨hl1, hd⟩ => by
      obtain ⟨rfl, hi⟩ := upto_at hx
      have hz : sizes[i]? = some sizes[i] := List.getElem?_eq_getElem hi
      obtain ⟨z0, z1⟩ := hs sizes[i] (List.getElem_mem hi)
      have grow : ∀ v : Int, ∀ (j : Nat) d z, (s.2.2 ++ [v % sizes[i]])[j]? = some d → sizes[j]? = some z → 0 ≤ d ∧ d < z := fun v j d z h1 h2 => by
        by_cases c : j < s.2.2.length
        · rw [List.getElem?_append_left c] at h1
          exact hd j d z h1 h2
        · rw [List.getElem?_append_right (by omega)] at h1
          have ej : j = i := by
            have := (List.getElem?_eq_some_iff.mp h1).1
            simp at this
            omega
          subst ej
          rw [hl1, Nat.sub_self] at h1
          simp at h1
          rw [hz] at h2
          cases h2
          subst h1
          exact ⟨Int.emod_nonneg _ (by omega), Int.emod_lt_of_pos _ z0⟩
      rw [pbind]
      generalize hseed : ((((s.1 * 48271) + (974711 * (i : Int))) + 12345) % 2147483647) = seed
      have s0 : 0 ≤ seed := by rw [← hseed]; exact Int.emod_nonneg _ (by omega)
      have s1 : seed < 2147483647 := by rw [← hseed]; exact Int.emod_lt_of_pos _ (by omega)
      rw [mulO_r (by omega) (by omega), pbind, pbind, pbind, pbind]
      by_cases c : 0 < s.2.1
      · rw [if_pos (decide_eq_true c), idx_nat hz, pbind, modO_ok z0, pbind, app _ _ (by omega), pbind, pbind, divO_ok z0 z1, pbind]
        exact ⟨_, rfl, by simp [hl1], grow _⟩
      · rw [if_neg (by rw [decide_eq_false c]; exact Bool.false_ne_true), idx_nat hz, pbind, modO_ok z0, pbind, app _ _ (by omega), pbind]
        exact ⟨_, rfl, by simp [hl1], grow _⟩)
  refine ⟨s'.2.2, ?_, by rw [h1, upto_len], h2⟩
  rw [e, pbind]

/-! making a web -/
structure AOk (n : Nat) (a : Int × Int × Int) : Prop where
  t0 : 0 ≤ a.1
  t1 : a.1 < n
  h0 : 0 ≤ a.2.1
  h1 : a.2.1 < n
  ne : a.1 ≠ a.2.1
  tg : a.1 ≠ 1
  hh : a.2.1 ≠ 0
  c0 : 0 ≤ a.2.2
def l2 (a : Int × Int × Int) : List Int := [a.1, a.2.1]
def l3 (a : Int × Int × Int) : List Int := [a.1, a.2.1, a.2.2]
theorem asAll_map {α β : Type} {f : PyData → Out β} {g : α → PyData} {h : α → β} (e : ∀ x, f (g x) = pure (h x)) : ∀ xs : List α, asAll f (xs.map g) = pure (xs.map h)
  | [] => rfl
  | x :: xs => by
    have e1 : f (g x) = .ok (h x) := e x
    have e2 : asAll f (xs.map g) = .ok (xs.map h) := asAll_map e xs
    rw [List.map_cons, asAll, e1, e2]
    rfl
theorem frz_arcs (B : List (Int × Int × Int)) : asTup (asT3 asInt asInt asInt) (frzD ((cLst (cLst cInt)).d (B.map l3))) = pure B := by
  have e : frzD ((cLst (cLst cInt)).d (B.map l3)) = .tuple (B.map fun a => .tuple [.int a.1, .int a.2.1, .int a.2.2]) := by
    show frzD (.list ((B.map l3).map (cLst cInt).d)) = _
    rw [frzD, frzDs_map, List.map_map, List.map_map]
    rfl
  rw [e]
  show asAll _ _ = _
  have em := asAll_map (f := asT3 asInt asInt asInt) (g := fun a : Int × Int × Int => PyData.tuple [.int a.1, .int a.2.1, .int a.2.2]) (h := fun a => a) (fun a => rfl) B
  rw [List.map_id'] at em
  exact em
theorem is_arc_ok {n : Nat} {a : Int × Int × Int} (h : AOk n a) : m_is_arc a (n : Int) = pure true := by
  rw [m_is_arc_eq]
  unfold b_is_arc
  simp only [pbind, decide_eq_true h.t0, decide_eq_true h.t1, decide_eq_true h.h0, decide_eq_true h.h1, decide_eq_false h.ne, decide_eq_false h.tg, decide_eq_false h.hh, decide_eq_true h.c0, Bool.not_false, if_true]
theorem init_ok {rooms gains : List Int} {B : List (Int × Int × Int)} (h : ∀ a ∈ B, AOk rooms.length a) : m_Web___init__ rooms gains ((cLst (cLst cInt)).d (B.map l3)) = pure (rooms, gains, B) := by
  rw [m_Web___init___eq]
  unfold b_Web___init__
  have e1 : dnO 8 ((cLst (cLst cInt)).d (B.map l3)) = pure ((cLst (cLst cInt)).d (B.map l3)) := if_pos (Nat.le_trans ((cLst (cLst cInt)).dep _) (by decide))
  rw [m_frozen_eq]
  simp only [pbind, e1, frz_arcs]
  refine Ok.eq (ok_bind.mpr (ok_for (fun _ _ => True) trivial (fun i s x hx _ => ?_) (fun s _ => ok_pure.mpr rfl)))
  have hl := (List.getElem?_eq_some_iff.mp hx).1
  rw [enumL_len] at hl
  rw [enumL_get (gA_some hl)] at hx
  cases hx
  rw [is_arc_ok (h _ (gA_mem hl))]
  exact ok_pure.mpr trivial
theorem lk_map {n : Nat} {B : List (Int × Int × Int)} {f : Int × Int × Int → List Int} (h : ∀ a ∈ B, AOk n a) (hl : B.length < 1000000) (hn : n < 1000000) (f0 : ∀ a, idx (f a) 0 = pure a.1) (f1 : ∀ a, idx (f a) 1 = pure a.2.1) : Lk (B.map f) B n where
  len := List.length_map _
  lt := hl
  cn := hn
  i0 := fun k hk => by rw [gA_map hk]; exact f0 _
  i1 := fun k hk => by rw [gA_map hk]; exact f1 _
  t0 := fun k hk => ⟨(h _ (gA_mem hk)).t0, (h _ (gA_mem hk)).t1⟩
  h0 := fun k hk => ⟨(h _ (gA_mem hk)).h0, (h _ (gA_mem hk)).h1⟩
theorem lk2 {n : Nat} {B : List (Int × Int × Int)} (h : ∀ a ∈ B, AOk n a) (hl : B.length < 1000000) (hn : n < 1000000) : Lk (B.map l2) B n := lk_map h hl hn (fun _ => rfl) (fun _ => rfl)
/-! ### the long ring -/
theorem sumTo_rev {f : Nat → Int} : ∀ n : Nat, sumTo n f = sumTo n fun k => f (n - 1 - k)
  | 0 => rfl
  | n + 1 => by
    have e := sumTo_split (f := fun k => f (n + 1 - 1 - k)) 1 n
    rw [Nat.add_comm 1 n] at e
    rw [e]
    show sumTo n f + f n = 0 + f (n + 1 - 1 - 0) + _
    rw [sumTo_rev n]
    have : (sumTo n fun k => f (n + 1 - 1 - (1 + k))) = sumTo n fun k => f (n - 1 - k) := sumTo_congr fun k hk => by congr 1; omega
    rw [this, show n + 1 - 1 - 0 = n by omega]
    omega
theorem out_rev {A : List (Int × Int × Int)} {u : List Int} (h : A.length = u.length) (v : Int) : outA A.reverse u v = outA A u.reverse v := by
  unfold outA
  rw [sumTo_rev, List.length_reverse]
  refine sumTo_congr fun k hk => ?_
  rw [gA_rev (xs := A) (by omega), gA_rev (xs := u) hk, show A.length - 1 - (u.length - 1 - k) = k by omega]
theorem inn_rev {A : List (Int × Int × Int)} {u : List Int} (h : A.length = u.length) (v : Int) : innA A.reverse u v = innA A u.reverse v := by
  unfold innA
  rw [sumTo_rev, List.length_reverse]
  refine sumTo_congr fun k hk => ?_
  rw [gA_rev (xs := A) (by omega), gA_rev (xs := u) hk, show A.length - 1 - (u.length - 1 - k) = k by omega]
theorem noring_rev {A : List (Int × Int × Int)} {u : List Int} (h : A.length = u.length) (nr : NoRing A.reverse u) : NoRing A u.reverse := by
  intro S hS x hx
  have flip : ∀ y : Int, 0 ≤ y → y < u.length → ((u.length : Int) - 1 - y).toNat < u.length ∧ gA A.reverse ((u.length : Int) - 1 - y).toNat = gA A y.toNat ∧ gA u ((u.length : Int) - 1 - y).toNat = gA u.reverse y.toNat := fun y h0 h1 => by
    refine ⟨by omega, ?_, ?_⟩
    · rw [gA_rev (by omega)]
      congr 1
      omega
    · rw [gA_rev (by omega)]
      congr 1
      omega
  refine nr (fun y => 0 ≤ y ∧ y < u.length ∧ S ((u.length : Int) - 1 - y)) (fun y ⟨y0, y1, hy⟩ => ?_) ((u.length : Int) - 1 - x) ?_
  · obtain ⟨_, _, h3, z, hz, ez⟩ := hS _ hy
    obtain ⟨z0, z1, _⟩ := hS z hz
    rw [List.length_reverse] at z1
    obtain ⟨_, f2, f3⟩ := flip _ (show 0 ≤ (u.length : Int) - 1 - y by omega) (by omega)
    rw [show (u.length : Int) - 1 - ((u.length : Int) - 1 - y) = y by omega] at f2 f3
    obtain ⟨_, g2, g3⟩ := flip z z0 z1
    refine ⟨y0, y1, by rw [f3]; exact h3, (u.length : Int) - 1 - z, ⟨by omega, by omega, by rw [show (u.length : Int) - 1 - ((u.length : Int) - 1 - z) = z by omega]; exact hz⟩, ?_⟩
    unfold tA hA at ez ⊢
    rw [f2, g2]
    exact ez
  · obtain ⟨x0, x1, _⟩ := hS x hx
    rw [List.length_reverse] at x1
    exact ⟨by omega, by omega, by rw [show (u.length : Int) - 1 - ((u.length : Int) - 1 - x) = x by omega]; exact hx⟩
theorem less_rev {A : List (Int × Int × Int)} {u r : List Int} (h : A.length = u.length) (hr : LessOk A.reverse u r) : LessOk A u.reverse r.reverse where
  len := by rw [List.length_reverse, List.length_reverse]; exact hr.len
  bd := fun k hk => by
    rw [List.length_reverse] at hk
    have hl := hr.len
    rw [gA_rev (by omega), gA_rev hk, hl]
    exact hr.bd _ (by omega)
  bal := fun v => by
    have hl := hr.len
    rw [← out_rev (by omega), ← inn_rev (by omega), ← out_rev h, ← inn_rev h]
    exact hr.bal v
  same := fun nr => by
    have hl := hr.len
    have e := noring_rev (A := A.reverse) (u := u.reverse) (by rw [List.length_reverse, List.length_reverse]; exact h) (by rw [List.reverse_reverse]; exact nr)
    rw [List.reverse_reverse] at e
    rw [hr.same e]
structure Chain (A : List (Int × Int × Int)) (p : Nat → Int) : Prop where
  len : A.length = 40
  inj : ∀ i j, i < 38 → j < 38 → p i = p j → i = j
  big : ∀ i, i < 38 → 2 ≤ p i
  ht : ∀ k, k < 38 → (gA A k).2.1 = p k
  hl : (gA A 38).2.1 = 1
  hb : (gA A 39).2.1 = p 0
  t0 : (gA A 0).1 = 0
  ts : ∀ k, k < 38 → (gA A (k + 1)).1 = p k
  tb : (gA A 39).1 = p 37
theorem chain_out {A : List (Int × Int × Int)} {p : Nat → Int} (h : Chain A p) {u : List Int} (hu : u.length = 40) {j : Nat} (hj : j < 38) : outA A u (p j) = gA u (j + 1) + if j = 37 then gA u 39 else 0 := by
  unfold outA
  rw [hu]
  show sumTo 39 _ + (if (gA A 39).1 = p j then gA u 39 else 0) = _
  rw [sumTo_one (j := j + 1) (by omega) (fun k hk hn => ?_)]
  · rw [if_pos (h.ts j hj), h.tb]
    by_cases c : j = 37
    · subst c
      rw [if_pos rfl, if_pos rfl]
    · rw [if_neg c, if_neg fun z => c (h.inj 37 j (by omega) hj z).symm]
  · by_cases c : k = 0
    · subst c
      rw [h.t0, if_neg]
      have := h.big j hj
      omega
    · have e := h.ts (k - 1) (by omega)
      rw [show k - 1 + 1 = k by omega] at e
      rw [e, if_neg fun z => hn (by have := h.inj _ _ (by omega) hj z; omega)]
theorem chain_in {A : List (Int × Int × Int)} {p : Nat → Int} (h : Chain A p) {u : List Int} (hu : u.length = 40) {j : Nat} (hj : j < 38) : innA A u (p j) = gA u j + if j = 0 then gA u 39 else 0 := by
  unfold innA
  rw [hu]
  show sumTo 38 _ + (if (gA A 38).2.1 = p j then gA u 38 else 0) + (if (gA A 39).2.1 = p j then gA u 39 else 0) = _
  have b := h.big j hj
  rw [sumTo_one (j := j) hj (fun k hk hn => by rw [h.ht k hk, if_neg fun z => hn (h.inj _ _ hk hj z)]), if_pos (h.ht j hj), h.hl, if_neg (by omega), h.hb, Int.add_zero]
  by_cases c : j = 0
  · subst c
    rw [if_pos rfl, if_pos rfl]
  · rw [if_neg c, if_neg fun z => c (h.inj 0 j (by omega) hj z).symm]
theorem chain_home {A : List (Int × Int × Int)} {p : Nat → Int} (h : Chain A p) {u : List Int} (hu : u.length = 40) : outA A u 0 = gA u 0 ∧ innA A u 0 = 0 := by
  constructor
  · unfold outA
    rw [hu, sumTo_one (j := 0) (by omega) (fun k hk hn => ?_), if_pos h.t0]
    have : (gA A k).1 ≠ 0 := by
      by_cases c : k < 39
      · have e := h.ts (k - 1) (by omega)
        rw [show k - 1 + 1 = k by omega] at e
        have := h.big (k - 1) (by omega)
        omega
      · have e := h.tb
        have := h.big 37 (by omega)
        rw [show k = 39 by omega]
        omega
    rw [if_neg this]
  · unfold innA
    rw [hu, sumTo_zero' fun k hk => ?_]
    have : (gA A k).2.1 ≠ 0 := by
      by_cases c : k < 38
      · rw [h.ht k c]
        have := h.big k c
        omega
      · by_cases d : k = 38
        · rw [d, h.hl]
          omega
        · rw [show k = 39 by omega, h.hb]
          have := h.big 0 (by omega)
          omega
    rw [if_neg this]
theorem chain_ok {A : List (Int × Int × Int)} {p : Nat → Int} (h : Chain A p) {u r : List Int} {a b : Int} (hu : u.length = 40) (u0 : gA u 0 = b) (us : ∀ k, 1 ≤ k → k ≤ 37 → gA u k = a + b) (u8 : gA u 38 = b) (u9 : gA u 39 = a) (b0 : 0 ≤ b) (hr : LessOk A u r) (nr : NoRing A r) :
    (∀ k, k < 39 → gA r k = b) ∧ gA r 39 = 0 := by
  have hrl : r.length = 40 := hr.len.trans hu
  have e0 : gA r 0 = b := by
    have := hr.bal 0
    rw [(chain_home h hrl).1, (chain_home h hrl).2, (chain_home h hu).1, (chain_home h hu).2] at this
    omega
  have bal : ∀ j, j < 38 → gA r (j + 1) + (if j = 37 then gA r 39 else 0) - (gA r j + if j = 0 then gA r 39 else 0) = 0 := fun j hj => by
    have := hr.bal (p j)
    rw [chain_out h hrl hj, chain_in h hrl hj, chain_out h hu hj, chain_in h hu hj] at this
    rw [this]
    by_cases c : j = 0
    · subst c
      rw [us 1 (by omega) (by omega), u0, u9]
      simp
      omega
    · by_cases d : j = 37
      · subst d
        rw [u8, u9, us 37 (by omega) (by omega)]
        simp
        omega
      · rw [us (j + 1) (by omega) (by omega), us j (by omega) (by omega), if_neg c, if_neg d]
        omega
  have e1 : gA r 1 = b + gA r 39 := by
    have := bal 0 (by omega)
    simp at this
    omega
  have es : ∀ k, k < 37 → gA r (k + 1) = b + gA r 39 := by
    intro k
    induction k with
    | zero => intro _; exact e1
    | succ k ih =>
      intro hk
      have := bal (k + 1) (by omega)
      rw [if_neg (by omega), if_neg (by omega), ih (by omega)] at this
      omega
  have e8 : gA r 38 = b := by
    have := bal 37 (by omega)
    have e36 := es 36 (by omega)
    simp at this e36
    omega
  have r9 : gA r 39 = 0 := by
    have h0 := (hr.bd 39 (by omega)).1
    rcases Int.lt_or_eq_of_le h0 with c | c
    · exfalso
      refine nr (fun x => (1 ≤ x ∧ x ≤ 37) ∨ x = 39) (fun x hx => ?_) 1 (.inl (by omega))
      rcases hx with hx | hx
      · have el := es (x.toNat - 1) (by omega)
        rw [show x.toNat - 1 + 1 = x.toNat by omega] at el
        refine ⟨by omega, by omega, by omega, ?_⟩
        by_cases d : x = 37
        · exact ⟨39, .inr rfl, by
            subst d
            show (gA A 39).1 = (gA A 37).2.1
            rw [h.tb, h.ht 37 (by omega)]⟩
        · exact ⟨x + 1, .inl (by omega), by
            show (gA A (x + 1).toNat).1 = (gA A x.toNat).2.1
            rw [show (x + 1).toNat = x.toNat + 1 by omega, h.ts _ (by omega), h.ht _ (by omega)]⟩
      · subst hx
        exact ⟨by omega, by omega, c, 1, .inl (by omega), by
          show (gA A 1).1 = (gA A 39).2.1
          rw [h.ts 0 (by omega), h.hb]⟩
    · exact c.symm
  refine ⟨fun k hk => ?_, r9⟩
  by_cases c : k = 0
  · rw [c]
    exact e0
  · by_cases d : k = 38
    · rw [d]
      exact e8
    · have := es (k - 1) (by omega)
      rw [show k - 1 + 1 = k by omega] at this
      omega

/-! the long ring and the large web -/
theorem idx_ex {xs : List Int} {i : Int} (h0 : 0 ≤ i) (h : i < xs.length) : ∃ a ∈ xs, idx xs i = pure a := ⟨_, gA_mem (by omega : i.toNat < xs.length), idx_at h0 h⟩
theorem steps_inj : ∀ st ∈ [1, 3, 5, 7, 9, 37], ∀ i, i < 38 → ∀ j, j < 38 → (i * st) % 38 = (j * st) % 38 → i = j := by decide +kernel
theorem steps_inj' {st : Int} (h : st ∈ ([1, 3, 5, 7, 9, 37] : List Int)) {i j : Nat} (hi : i < 38) (hj : j < 38) (e : ((i : Int) * st) % 38 = ((j : Int) * st) % 38) : i = j := by
  have hs : st.toNat ∈ [1, 3, 5, 7, 9, 37] ∧ (st.toNat : Int) = st := by
    simp only [List.mem_cons, List.not_mem_nil, or_false] at h ⊢
    omega
  refine steps_inj st.toNat hs.1 i hi j hj ?_
  rw [← hs.2] at e
  have e1 : ((i * st.toNat % 38 : Nat) : Int) = ((j * st.toNat % 38 : Nat) : Int) := by
    rw [Int.natCast_emod, Int.natCast_emod, Int.natCast_mul, Int.natCast_mul]
    exact e
  omega
theorem mem_rev {B : List (Int × Int × Int)} {n : Nat} (h : ∀ a ∈ B, AOk n a) : ∀ a ∈ B.reverse, AOk n a := fun a ha => h a (List.mem_reverse.mp ha)
theorem gA_one {α : Type} [Inhabited α] (a : α) : gA [a] 0 = a := gA_of rfl
theorem long_ok {part : List Int} (hl : part.length = 4) (h0 : 0 ≤ gA part 0) (h1 : 0 ≤ gA part 1) (h2 : 0 ≤ gA part 2 ∧ gA part 2 < 6) : m_law_long_right part = pure true := by
  rw [m_law_long_right_eq]
  refine Ok.eq ?_
  unfold b_law_long_right
  have i0 : idx part 0 = pure (gA part 0) := idx_gA (k := 0) (by omega)
  have i1 : idx part 1 = pure (gA part 1) := idx_gA (k := 1) (by omega)
  have i2 : idx part 2 = pure (gA part 2) := idx_gA (k := 2) (by omega)
  have i3 : idx part 3 = pure (gA part 3) := idx_gA (k := 3) (by omega)
  generalize ea : gA part 0 = a at *
  generalize eb : gA part 1 = b at *
  obtain ⟨st, hst, es⟩ := idx_ex (xs := [1, 3, 5, 7, 9, 37]) h2.1 (by exact h2.2)
  have sb : 0 < st ∧ st < 38 := by
    simp only [List.mem_cons, List.not_mem_nil, or_false] at hst
    omega
  rw [i2, pbind, es, pbind, pbind]
  refine ok_bind.mpr (ok_map (fun k => 2 + (k * st) % 38) (fun k _ => by rw [mulO_r (by omega) (by omega)]; rfl) ?_)
  have nl : ((upto 38).map fun k => 2 + (k * st) % 38).length = 38 := by rw [List.length_map, upto_len]
  have ng : ∀ k, k < 38 → gA ((upto 38).map fun k => 2 + (k * st) % 38) k = 2 + ((k : Int) * st) % 38 := fun k hk => by rw [gA_map (by rw [upto_len]; exact hk), gA_upto hk]
  generalize (upto 38).map (fun k => 2 + (k * st) % 38) = nodes at nl ng
  rw [catO_ok (by rw [nl]; decide), pbind, catO_ok (by simp [nl])]
  rw [pbind]
  have wl : ([0] ++ nodes ++ [1]).length = 40 := by simp [nl]
  have w0 : gA ([0] ++ nodes ++ [1]) 0 = 0 := gA_of rfl
  have ws : ∀ k, k < 38 → gA ([0] ++ nodes ++ [1]) (k + 1) = gA nodes k := fun k hk => by
    rw [gA_app_l (by simp [nl]; omega), gA_app_r (by simp)]
    rfl
  have w9 : gA ([0] ++ nodes ++ [1]) 39 = 1 := by
    rw [gA_app_r (by simp [nl])]
    simp only [List.length_append, List.length_singleton, nl]
    exact gA_one 1
  generalize [0] ++ nodes ++ [1] = walk at wl w0 ws w9
  refine ok_bind.mpr (ok_bind.mpr (ok_map (fun k => [gA walk k.toNat, gA walk (k.toNat + 1), 0]) (fun k hk => by
    have := upto_mem.mp hk
    rw [idx_at this.1 (by omega), idx_at (show 0 ≤ k + 1 by omega) (by omega), show (k + 1).toNat = k.toNat + 1 by omega]
    rfl) ?_))
  have j0 : idx nodes 0 = pure (gA nodes 0) := idx_gA (k := 0) (by omega)
  have j7 : idx nodes 37 = pure (gA nodes 37) := idx_gA (k := 37) (by omega)
  simp only [j0, j7, pbind]
  rw [catO_ok (by simp [upto_len]), ok_pure]
  generalize hB : ((upto 39).map fun k => (gA walk k.toNat, gA walk (k.toNat + 1), (0 : Int))) ++ [(gA nodes 37, gA nodes 0, 0)] = B
  have eB : ((upto 39).map fun k => [gA walk k.toNat, gA walk (k.toNat + 1), 0]) ++ [[gA nodes 37, gA nodes 0, 0]] = B.map l3 := by
    rw [← hB, List.map_append, List.map_map]
    rfl
  rw [eB]
  have Bl : B.length = 40 := by rw [← hB]; simp [upto_len]
  have Bk : ∀ k, k < 39 → gA B k = (gA walk k, gA walk (k + 1), 0) := fun k hk => by
    rw [← hB, gA_app_l (by simp [upto_len]; omega), gA_map (by rw [upto_len]; exact hk), gA_upto hk]
    rfl
  have B9 : gA B 39 = (gA nodes 37, gA nodes 0, 0) := by
    rw [← hB, gA_app_r (by simp [upto_len])]
    simp only [List.length_map, upto_len]
    exact gA_one _
  have ch : Chain B (gA nodes) := {
    len := Bl
    inj := fun i j hi hj e => by
      rw [ng i hi, ng j hj] at e
      exact steps_inj' hst hi hj (by omega)
    big := fun i hi => by
      rw [ng i hi]
      omega
    ht := fun k hk => by rw [Bk k (by omega), ← ws k hk]
    hl := by rw [Bk 38 (by omega)]; exact w9
    hb := by rw [B9]
    t0 := by rw [Bk 0 (by omega)]; exact w0
    ts := fun k hk => by rw [Bk (k + 1) (by omega), ← ws k hk]
    tb := by rw [B9] }
  have nb : ∀ k, k < 38 → 2 ≤ gA nodes k ∧ gA nodes k < 40 := fun k hk => by
    rw [ng k hk]
    omega
  have Bok : ∀ x ∈ B, AOk 40 x := fun x hx => by
    obtain ⟨k, hk, e⟩ := mem_gA hx
    rw [Bl] at hk
    subst e
    by_cases c : k < 39
    · rw [Bk k c]
      by_cases c0 : k = 0
      · subst c0
        have := nb 0 (by omega)
        rw [w0, ws 0 (by omega)]
        exact ⟨by dsimp only; omega, by dsimp only; omega, by dsimp only; omega, by dsimp only; omega, by dsimp only; omega, by dsimp only; omega, by dsimp only; omega, by dsimp only; omega⟩
      · have e1 := ws (k - 1) (by omega)
        rw [show k - 1 + 1 = k by omega] at e1
        have n1 := nb (k - 1) (by omega)
        by_cases c8 : k = 38
        · subst c8
          rw [w9, e1]
          exact ⟨by dsimp only; omega, by dsimp only; omega, by dsimp only; omega, by dsimp only; omega, by dsimp only; omega, by dsimp only; omega, by dsimp only; omega, by dsimp only; omega⟩
        · have n2 := nb k (by omega)
          have ne : gA nodes (k - 1) ≠ gA nodes k := fun z => by
            have := ch.inj _ _ (by omega) (by omega) z
            omega
          rw [e1, ws k (by omega)]
          exact ⟨by dsimp only; omega, by dsimp only; omega, by dsimp only; omega, by dsimp only; omega, ne, by dsimp only; omega, by dsimp only; omega, by dsimp only; omega⟩
    · have n1 := nb 37 (by omega)
      have n2 := nb 0 (by omega)
      have ne : gA nodes 37 ≠ gA nodes 0 := fun z => by
        have := ch.inj _ _ (by omega) (by omega) z
        omega
      rw [show k = 39 by omega, B9]
      exact ⟨by dsimp only; omega, by dsimp only; omega, by dsimp only; omega, by dsimp only; omega, ne, by dsimp only; omega, by dsimp only; omega, by dsimp only; omega⟩
  clear eB hB
  have r37 : repO [a + b] 37 = pure (List.replicate 37 (a + b)) := repO_nat (n := 37) (by decide)
  have r39 : repO [b] 39 = pure (List.replicate 39 b) := repO_nat (n := 39) (by decide)
  simp only [i0, i1, pbind, r37, r39]
  rw [catO_ok (by simp), pbind, catO_ok (by simp), pbind, catO_ok (by simp), pbind, i3]
  generalize hu : [b] ++ List.replicate 37 (a + b) ++ [b, a] = u
  have ul : u.length = 40 := by rw [← hu]; simp
  have u0 : gA u 0 = b := by rw [← hu]; exact gA_of rfl
  have us : ∀ k, 1 ≤ k → k ≤ 37 → gA u k = a + b := fun k k1 k2 => by
    rw [← hu, gA_app_l (by simp; omega), gA_app_r (by simp; omega), gA_rep (by simp; omega)]
  have u8 : gA u 38 = b := by
    rw [← hu, gA_app_r (by simp)]
    exact gA_of (by simp)
  have u9 : gA u 39 = a := by
    rw [← hu, gA_app_r (by simp)]
    exact gA_of (by simp)
  have upos : ∀ k, k < u.length → 0 ≤ gA u k := fun k hk => by
    by_cases c0 : k = 0
    · rw [c0, u0]; exact h1
    · by_cases c8 : k = 38
      · rw [c8, u8]; exact h1
      · by_cases c9 : k = 39
        · rw [c9, u9]; exact h0
        · rw [us k (by omega) (by omega)]; omega
  clear hu
  generalize hd : List.replicate 39 b ++ [(0 : Int)] = due
  have due_is : ∀ r : List Int, r.length = 40 → (∀ k, k < 39 → gA r k = b) → gA r 39 = 0 → r = due := fun r hr h1 h2 => by
    subst hd
    refine gA_ext (by simp [hr]) fun k hk => ?_
    by_cases c : k < 39
    · rw [h1 k c, gA_app_l (by simpa using c), gA_rep c]
    · rw [show k = 39 by omega, h2, gA_app_r (by simp)]
      simp only [List.length_replicate]
      exact (gA_one (0 : Int)).symm
  have fin : ∀ (B' : List (Int × Int × Int)) (u' due' : List Int), B'.length = 40 → (∀ x ∈ B', AOk 40 x) → u'.length = 40 → (∀ k, k < u'.length → 0 ≤ gA u' k) → (∀ r, LessOk B' u' r → NoRing B' r → r = due') →
      Ok (((mapO (fun k34 => pure 400) (upto 40)) >>= fun t41 => (mapO (fun k36 => pure 0) (upto 40)) >>= fun t42 => ((mapO (fun arc38 => pure arc38) (B'.map l3)) >>= fun t40 => pure ((cLst (cLst cInt)).d t40)) >>= fun t43 => m_Web___init__ t41 t42 t43) >>= fun web =>
(m_without_ringsT web u') >>= fun told =>
(m_law_numbers told 40) >>= fun t44 => if t44 = true then pure (decide (told = due')) else pure false) fun b => b = true := fun B' u' due' hB' hok hu' hp hd' => by
    have m1 : mapO (fun k34 => (pure 400 : Out Int)) (upto 40) = pure ((upto 40).map fun _ => 400) := mapO_ok _ fun _ _ => rfl
    have m2 : mapO (fun k34 => (pure 0 : Out Int)) (upto 40) = pure ((upto 40).map fun _ => 0) := mapO_ok _ fun _ _ => rfl
    have m3 : mapO (fun arc38 => (pure arc38 : Out (List Int))) (B'.map l3) = pure ((B'.map l3).map fun x => x) := mapO_ok _ fun _ _ => rfl
    rw [m1, pbind, m2, pbind, m3, List.map_id', pbind, pbind, init_ok (by rw [List.length_map, upto_len]; exact hok), pbind, without_same]
    obtain ⟨r, er, hr, nr⟩ := without_ok (web := ((upto 40).map fun _ => 400, (upto 40).map fun _ => 0, B')) (u := u') (by show B'.length = _; omega) (by omega) hp
    have er2 := hd' r hr nr
    have hrl : r.length = 40 := hr.len.trans hu'
    rw [er, pbind, numbers_ok r (by omega), pbind, if_pos rfl, er2, decide_eq_true rfl]
    exact ok_pure.mpr rfl
  rw [pbind, pbind]
  by_cases c : gA part 3 = 1
  · rw [if_pos (decide_eq_true c)]
    simp only [pbind]
    rw [← List.map_reverse]
    refine fin B.reverse u.reverse due.reverse (by rw [List.length_reverse]; exact Bl) (mem_rev Bok) (by rw [List.length_reverse]; exact ul) (fun k hk => ?_) (fun r hr nr => ?_)
    · rw [List.length_reverse] at hk
      rw [gA_rev hk]
      exact upos _ (by omega)
    · have hr' := less_rev (A := B) (u := u.reverse) (by rw [List.length_reverse]; omega) hr
      rw [List.reverse_reverse] at hr'
      have hl2 := hr.len
      rw [List.length_reverse] at hl2
      obtain ⟨g1, g2⟩ := chain_ok ch ul u0 us u8 u9 h1 hr' (noring_rev (by omega) nr)
      rw [← due_is r.reverse (by rw [List.length_reverse]; omega) g1 g2, List.reverse_reverse]
  · rw [if_neg (by rw [decide_eq_false c]; exact Bool.false_ne_true)]
    simp only [pbind]
    refine fin B u due Bl Bok ul upos fun r hr nr => ?_
    obtain ⟨g1, g2⟩ := chain_ok ch ul u0 us u8 u9 h1 hr nr
    exact due_is r (hr.len.trans ul) g1 g2
theorem sizes50 : ∃ S : List Int, repO [39, 39, 6] 50 = pure S ∧ S.length = 150 ∧ (∀ s ∈ S, 0 < s ∧ s < 1073741824) ∧ ∀ k, k < 50 → S[3 * k]? = some 39 ∧ S[3 * k + 1]? = some 39 ∧ S[3 * k + 2]? = some 6 := ⟨_, rfl, rfl, by decide +kernel, by decide +kernel⟩
theorem large_ok (script : List Int) : m_law_large_right script = pure true := by
  rw [m_law_large_right_eq]
  refine Ok.eq ?_
  unfold b_law_large_right
  obtain ⟨S, eS, Sl, Sp, Sg⟩ := sizes50
  rw [pbind, pbind, pbind, eS]
  refine ok_bind.mpr (ok_for (fun i s => ∃ B : List (Int × Int × Int), s.1 = B.map l2 ∧ (∀ a ∈ B, AOk 40 a ∧ a.2.2 = 0) ∧ s.2.length = B.length ∧ B.length ≤ 50 * i ∧ ∀ x ∈ s.2, 0 ≤ x) ⟨[], rfl, by simp, rfl, by simp, by simp⟩ (fun i s x hx ⟨B0, e1, ok1, l1, n1, p1⟩ => ?_) (fun s ⟨B, e1, ok1, l1, n1, p1⟩ => ?_))
  · obtain ⟨rfl, hi⟩ := upto_at hx
    obtain ⟨c, ec⟩ := cell_ok script (2 + (i : Int)) (by omega) (by omega)
    obtain ⟨row, er, rl, rd⟩ := digits_ok c S Sp (by rw [Sl]; decide)
    rw [ec, pbind, pbind, er, pbind, pbind]
    rw [Sl] at rl
    have rg : ∀ k, k < 150 → ∀ z, S[k]? = some z → 0 ≤ gA row k ∧ gA row k < z := fun k hk z hz => rd k _ z (gA_some (by omega)) hz
    refine ok_bind.mpr (ok_for (fun j s => ∃ B : List (Int × Int × Int), s.1 = B.map l2 ∧ (∀ a ∈ B, AOk 40 a ∧ a.2.2 = 0) ∧ s.2.length = B.length ∧ B.length ≤ 50 * i + j ∧ ∀ x ∈ s.2, 0 ≤ x) ⟨B0, e1, ok1, l1, n1, p1⟩ (fun j s x hx ⟨B, e1, ok1, l1, n1, p1⟩ => ?_) (fun s ⟨B, e1, ok1, l1, n1, p1⟩ => ?_))
    · obtain ⟨rfl, hj⟩ := upto_at hx
      obtain ⟨g0, g1, g2⟩ := Sg j hj
      have r0 := rg _ (by omega) _ g0
      have r1 := rg _ (by omega) _ g1
      have r2 := rg _ (by omega) _ g2
      have i0 : idx row (3 * (j : Int)) = pure (gA row (3 * j)) := idx_gA (k := 3 * j) (by omega)
      have i1 : idx row (3 * (j : Int) + 1) = pure (gA row (3 * j + 1)) := idx_gA (k := 3 * j + 1) (by omega)
      have i2 : idx row (3 * (j : Int) + 2) = pure (gA row (3 * j + 2)) := idx_gA (k := 3 * j + 2) (by omega)
      rw [i0, pbind, i1, pbind, i2]
      generalize gA row (3 * j) = t at r0
      generalize gA row (3 * j + 1) = h at r1
      generalize gA row (3 * j + 2) = z at r2
      have cond : (if (!decide (t = h)) = true then (pure true : Out Bool) else pure (decide (t = 0))) = pure (decide (t ≠ h ∨ t = 0)) := by
        by_cases c1 : t = h <;> by_cases c2 : t = 0 <;> simp [c1, c2]
      rw [cond, pbind]
      by_cases c : t ≠ h ∨ t = 0
      · rw [if_pos (decide_eq_true c), pbind, appO_ok (by rw [e1, List.length_map]; omega), pbind, pbind, appO_ok (by omega), pbind, ok_pure]
        refine ⟨B ++ [(t + (if decide (0 < t) = true then 1 else 0), h + 1, 0)], by rw [List.map_append, e1]; rfl, fun a ha => ?_, by simp [l1], by simp; omega, fun x hx => ?_⟩
        · rcases List.mem_append.mp ha with q | q
          · exact ok1 a q
          · simp only [List.mem_singleton] at q
            subst q
            refine ⟨?_, rfl⟩
            by_cases d : 0 < t
            · rw [if_pos (decide_eq_true d)]
              exact ⟨by dsimp only; omega, by dsimp only; omega, by dsimp only; omega, by dsimp only; omega, by dsimp only; omega, by dsimp only; omega, by dsimp only; omega, by dsimp only; omega⟩
            · rw [if_neg (by rw [decide_eq_false d]; exact Bool.false_ne_true)]
              exact ⟨by dsimp only; omega, by dsimp only; omega, by dsimp only; omega, by dsimp only; omega, by dsimp only; omega, by dsimp only; omega, by dsimp only; omega, by dsimp only; omega⟩
        · rcases List.mem_append.mp hx with q | q
          · exact p1 x q
          · simp only [List.mem_singleton] at q
            omega
      · rw [if_neg (by rw [decide_eq_false c]; exact Bool.false_ne_true), ok_pure]
        exact ⟨B, e1, ok1, l1, by omega, p1⟩
    · rw [upto_len] at n1
      exact ok_pure.mpr ⟨B, e1, ok1, l1, by omega, p1⟩
  · rw [upto_len] at n1
    have m1 : mapO (fun k34 => (pure 400 : Out Int)) (upto 40) = pure ((upto 40).map fun _ => 400) := mapO_ok _ fun _ _ => rfl
    have m2 : mapO (fun k34 => (pure 0 : Out Int)) (upto 40) = pure ((upto 40).map fun _ => 0) := mapO_ok _ fun _ _ => rfl
    have m3 : mapO (fun arc18 => (idx arc18 0) >>= fun t19 => (idx arc18 1) >>= fun t20 => (pure [t19, t20, 0] : Out (List Int))) s.1 = pure (B.map l3) := by
      have m4 := mapO_ok (f := fun arc18 => (idx arc18 0) >>= fun t19 => (idx arc18 1) >>= fun t20 => (pure [t19, t20, 0] : Out (List Int))) (g := fun x => [gA x 0, gA x 1, 0]) s.1 (fun x hx => by
        rw [e1] at hx
        obtain ⟨a, _, rfl⟩ := List.mem_map.mp hx
        rfl)
      rw [m4, e1, List.map_map]
      congr 1
      refine List.map_congr_left fun a ha => ?_
      show [a.1, a.2.1, 0] = [a.1, a.2.1, a.2.2]
      rw [(ok1 a ha).2]
    have okB : ∀ a ∈ B, AOk 40 a := fun a ha => (ok1 a ha).1
    rw [m1, pbind, m2, pbind, m3, pbind, pbind, init_ok (by rw [List.length_map, upto_len]; exact okB), pbind, pbind]
    have up : ∀ k, k < s.2.length → 0 ≤ gA s.2 k := fun k hk => p1 _ (gA_mem hk)
    obtain ⟨r, er, hr, nr⟩ := without_ok (web := ((upto 40).map fun _ => 400, (upto 40).map fun _ => 0, B)) (u := s.2) (by show B.length = _; omega) (by omega) up
    rw [er, pbind, decide_eq_true rfl, if_pos rfl, e1]
    have K := lk2 okB (by omega) (by decide)
    exact ⟨true, right_ok (n := 40) K l1 hr nr, rfl⟩

/-! the law's walks -/
structure Wk (n : Int) (c : Nat) (w : List Int) : Prop where
  l2 : 2 ≤ w.length
  l6 : w.length ≤ 6
  st : ∀ k, k + 1 < w.length → 0 ≤ gA w k ∧ gA w k < n ∧ 0 ≤ gA w (k + 1) ∧ gA w (k + 1) < n ∧ gA w k ≠ gA w (k + 1) ∧ gA w k ≠ 1 ∧ gA w (k + 1) ≠ 0
  bal : ∀ v : Int, 2 ≤ v → (w.drop 1).count v = w.dropLast.count v
  vis : ∀ v : Int, 2 ≤ v → (w.drop 1).count v ≤ c
theorem nodup_count {α : Type} [DecidableEq α] (v : α) : ∀ {l : List α}, l.Nodup → l.count v ≤ 1
  | [], _ => by simp
  | x :: l, h => by
    have h := List.nodup_cons.mp h
    rw [List.count_cons]
    by_cases c : x = v
    · subst c
      rw [List.count_eq_zero.mpr h.1]
      simp
    · have := nodup_count v h.2
      simp [c]
      exact this
theorem wk_home (n : Int) (hn : 2 ≤ n) (c : Nat) : Wk n c [0, 1] where
  l2 := by decide
  l6 := by decide
  st := fun k hk => by
    have : k = 0 := by simp at hk; omega
    subst this
    rw [gA_of (xs := [(0 : Int), 1]) (k := 0) rfl, gA_of (xs := [(0 : Int), 1]) (k := 0 + 1) rfl]
    omega
  bal := fun v hv => by
    have h1 : (1 : Int) ≠ v := by omega
    have h2 : (0 : Int) ≠ v := by omega
    simp [h1, h2]
  vis := fun v hv => by
    have h1 : (1 : Int) ≠ v := by omega
    simp [h1]
/-- on the way: home and then nodes, none twice in a row -/
structure Way (n : Int) (i : Nat) (s : List Int) : Prop where
  ex : ∃ t, s = 0 :: t ∧ t.length ≤ i ∧ (∀ x ∈ t, 2 ≤ x ∧ x < n) ∧ ∀ v : Int, 2 ≤ v → 2 * t.count v + (if gA s (s.length - 1) = v then 0 else 1) ≤ s.length
  adj : ∀ k, k + 1 < s.length → gA s k ≠ gA s (k + 1)
theorem way0 (n : Int) : Way n 0 [0] := ⟨⟨[], rfl, by simp, by simp, fun v hv => by simp; split <;> omega⟩, fun k hk => by simp at hk⟩
theorem Way.mono {n : Int} {i j : Nat} {s : List Int} (h : Way n i s) (l : i ≤ j) : Way n j s := by
  obtain ⟨⟨t, a, b, c⟩, d⟩ := h
  exact ⟨⟨t, a, by omega, c⟩, d⟩
theorem Way.app {n : Int} {i : Nat} {s : List Int} (h : Way n i s) {x : Int} (h1 : 2 ≤ x) (h2 : x < n) (h3 : x ≠ gA s (s.length - 1)) : Way n (i + 1) (s ++ [x]) := by
  obtain ⟨⟨t, a, b, c, d⟩, e⟩ := h
  refine ⟨⟨t ++ [x], by rw [a]; rfl, by simp; omega, fun y hy => ?_, fun v hv => ?_⟩, fun k hk => ?_⟩
  · rcases List.mem_append.mp hy with q | q
    · exact c y q
    · simp only [List.mem_singleton] at q
      omega
  · have dv := d v hv
    rw [List.length_append, List.length_singleton, Nat.add_sub_cancel, gA_app_r (Nat.le_refl _), Nat.sub_self, gA_one, List.count_append]
    by_cases cx : x = v
    · subst cx
      rw [if_neg (Ne.symm h3)] at dv
      rw [if_pos rfl]
      simp
      omega
    · rw [if_neg cx]
      simp [cx]
      omega
  · rw [List.length_append, List.length_singleton] at hk
    rw [gA_app_l (by omega)]
    by_cases cx : k + 1 < s.length
    · rw [gA_app_l cx]
      exact e k cx
    · rw [gA_app_r (by omega), show k + 1 - s.length = 0 by omega, gA_one, show k = s.length - 1 by omega]
      exact Ne.symm h3
theorem Way.done {n : Int} {i : Nat} {s : List Int} (h : Way n i s) (hi : i ≤ 4) (hn : 2 ≤ n) : Wk n 2 (s ++ [1]) := by
  obtain ⟨⟨t, a, b, c, d⟩, e⟩ := h
  have hl : s.length = t.length + 1 := by rw [a]; rfl
  have g0 : gA s 0 = 0 := by rw [a]; exact gA_of rfl
  have gs : ∀ k, 0 < k → k < s.length → 2 ≤ gA s k ∧ gA s k < n := fun k h1 h2 => by
    have : gA s k = gA t (k - 1) := by
      rw [a]
      refine gA_of ?_
      rw [show k = k - 1 + 1 by omega, List.getElem?_cons_succ]
      exact gA_some (by omega)
    rw [this]
    exact c _ (gA_mem (by omega))
  have gz : ∀ k, k < s.length → 0 ≤ gA s k ∧ gA s k < n ∧ gA s k ≠ 1 := fun k hk => by
    by_cases ck : k = 0
    · rw [ck, g0]
      omega
    · have := gs k (by omega) hk
      omega
  have d1 : (s ++ [1]).drop 1 = t ++ [1] := by rw [a]; rfl
  have d2 : (s ++ [1]).dropLast = s := by simp
  have cnt : ∀ v : Int, 2 ≤ v → ((s ++ [1]).drop 1).count v = t.count v := fun v hv => by
    have h1 : (1 : Int) ≠ v := by omega
    rw [d1, List.count_append]
    simp [h1]
  refine ⟨by simp; omega, by simp; omega, fun k hk => ?_, fun v hv => ?_, fun v hv => ?_⟩
  · rw [List.length_append, List.length_singleton] at hk
    rw [gA_app_l (by omega)]
    obtain ⟨z0, z1, z2⟩ := gz k (by omega)
    by_cases cx : k + 1 < s.length
    · rw [gA_app_l cx]
      have := e k cx
      have := gs (k + 1) (by omega) cx
      omega
    · rw [gA_app_r (by omega), show k + 1 - s.length = 0 by omega, gA_one]
      omega
  · rw [cnt v hv, d2, a]
    have h0 : (0 : Int) ≠ v := by omega
    simp [h0]
  · rw [cnt v hv]
    have := d v hv
    split at this <;> omega
theorem ring_done {n : Int} {s : List Int} {i : Nat} (nd : s.Nodup) (hs : ∀ x ∈ s, 2 ≤ x ∧ x < 2 + max 1 (n - 2)) (hl : s.length ≤ i) (hi : i ≤ 4) (h1 : 1 < s.length) : Wk n 1 (s ++ [gA s 0]) := by
  have hn : 2 < n := by
    rcases Int.lt_or_le 2 n with c | c
    · exact c
    · exfalso
      have z0 := hs _ (gA_mem (show 0 < s.length by omega))
      have z1 := hs _ (gA_mem h1)
      have := nodup_gA nd (by omega) h1 (show gA s 0 = gA s 1 by omega)
      omega
  have mx : max 1 (n - 2) = n - 2 := by omega
  rw [mx] at hs
  have gs : ∀ k, k < s.length → 2 ≤ gA s k ∧ gA s k < n := fun k hk => by
    have := hs _ (gA_mem hk)
    omega
  have d2 : (s ++ [gA s 0]).dropLast = s := by simp
  have d1 : (s ++ [gA s 0]).drop 1 = s.drop 1 ++ [gA s 0] := by
    rw [List.drop_append_of_le_length (by omega)]
  have dc : ∀ v : Int, ((s ++ [gA s 0]).drop 1).count v = s.count v := fun v => by
    rw [d1]
    cases s with
    | nil => simp at h1
    | cons a s =>
      rw [gA_of (xs := a :: s) (k := 0) rfl]
      simp [List.count_append, List.count_cons]
  refine ⟨by simp; omega, by simp; omega, fun k hk => ?_, fun v hv => ?_, fun v hv => ?_⟩
  · rw [List.length_append, List.length_singleton] at hk
    rw [gA_app_l (by omega)]
    have := gs k (by omega)
    by_cases cx : k + 1 < s.length
    · rw [gA_app_l cx]
      have := gs (k + 1) cx
      have ne : gA s k ≠ gA s (k + 1) := fun z => by
        have := nodup_gA nd (by omega) cx z
        omega
      omega
    · rw [gA_app_r (by omega), show k + 1 - s.length = 0 by omega, gA_one]
      have := gs 0 (by omega)
      have ne : gA s k ≠ gA s 0 := fun z => by
        have := nodup_gA nd (by omega) (by omega) z
        omega
      omega
  · rw [dc, d2]
  · rw [dc]
    exact nodup_count v nd
/-! ### the row -/
structure RowOk (row : List Int) : Prop where
  len : row.length = 85
  r0 : 0 ≤ gA row 0 ∧ gA row 0 < 10
  p0 : ∀ j, j < 6 → 0 ≤ gA row (4 + 10 * j) ∧ gA row (4 + 10 * j) < 6
  am : ∀ j, j < 6 → 0 ≤ gA row (5 + 10 * j) ∧ gA row (5 + 10 * j) < 40
  l0 : 0 ≤ gA row 81
  l1 : 0 ≤ gA row 82
  l2 : 0 ≤ gA row 83 ∧ gA row 83 < 6
theorem sizes85 : ∃ S : List Int, ((((((repO [38, 5] 4) >>= fun t1 => catO [6, 40] t1) >>= fun t2 => repO t2 6) >>= fun t3 => catO [10, 45, 4, 2] t3) >>= fun t4 => (repO [39] 16) >>= fun t5 => catO t4 t5) >>= fun t6 => catO t6 [24]) >>= (fun t7 => catO t7 [40, 40, 6, 2]) = pure S ∧ S.length = 85 ∧ (∀ s ∈ S, 0 < s ∧ s < 1073741824) ∧ S[0]? = some 10 ∧ (∀ j, j < 6 → S[4 + 10 * j]? = some 6 ∧ S[5 + 10 * j]? = some 40) ∧ S[81]? = some 40 ∧ S[82]? = some 40 ∧ S[83]? = some 6 := ⟨_, rfl, rfl, by decide +kernel, rfl, by decide +kernel, rfl, rfl, rfl⟩
def inner (row : List Int) : Int := gA [3, 4, 5, 6, 8, 2, 10, 1, 0, 38] (gA row 0).toNat
theorem inner_ok {row : List Int} (h : RowOk row) : ((idx row 0) >>= fun t1 => idx [3, 4, 5, 6, 8, 2, 10, 1, 0, 38] t1) = pure (inner row) ∧ 0 ≤ inner row ∧ inner row ≤ 38 := by
  have i0 : idx row 0 = pure (gA row 0) := idx_gA (k := 0) (by have := h.len; omega)
  rw [i0, pbind]
  have r := h.r0
  have hl : (gA row 0).toNat < ([3, 4, 5, 6, 8, 2, 10, 1, 0, 38] : List Int).length := by show _ < 10; omega
  refine ⟨idx_at r.1 (by exact r.2), ?_⟩
  have := gA_mem hl
  have all : ∀ x ∈ ([3, 4, 5, 6, 8, 2, 10, 1, 0, 38] : List Int), 0 ≤ x ∧ x ≤ 38 := by decide
  exact all _ this
theorem six_ex {a : Int} (T : List Int) (h : T.length = 6) (hT : ∀ x ∈ T, 0 ≤ x ∧ x ≤ 4) (h0 : 0 ≤ a) (h1 : a < 6) : ∃ m : Nat, m ≤ 4 ∧ idx T a = pure (m : Int) := by
  obtain ⟨x, hx, e⟩ := idx_ex (xs := T) h0 (by omega)
  have := hT x hx
  exact ⟨x.toNat, by omega, by rw [e, Int.toNat_of_nonneg this.1]⟩
theorem part_get {row : List Int} (h : RowOk row) (j : Nat) (hj : j < 6) (i : Nat) (hi : i < 10) : idx (cut row (some ((4 + 10 * j : Nat) : Int)) (some ((14 + 10 * j : Nat) : Int))) (i : Int) = pure (gA row (4 + 10 * j + i)) := by
  have hl := h.len
  rw [cut_mid, Nat.min_eq_left (by omega), Nat.min_eq_left (by omega)]
  have : ((row.drop (4 + 10 * j)).take (14 + 10 * j - (4 + 10 * j))).length = 10 := by rw [List.length_take, List.length_drop]; omega
  rw [idx_gA (by omega), gA_take (by omega), gA_drop]
theorem node_ok {row : List Int} (h : RowOk row) (j : Nat) (hj : j < 6) (x : Nat) (hx : x < 4) : (((idx (cut row (some ((4 + 10 * j : Nat) : Int)) (some ((14 + 10 * j : Nat) : Int))) (2 + 2 * (x : Int))) >>= fun t8 => pure t8) >>= fun t9 => modO t9 (max 1 (inner row))) = pure (gA row (4 + 10 * j + (2 + 2 * x)) % max 1 (inner row)) := by
  have := part_get h j hj (2 + 2 * x) (by omega)
  have e : ((2 + 2 * x : Nat) : Int) = 2 + 2 * (x : Int) := by omega
  rw [e] at this
  rw [this, pbind, pbind, modO_ok (by omega)]
theorem walks_ok {row : List Int} (h : RowOk row) : Ok (m_law_walks row) fun W => W.length = 6 ∧ (∀ j, j < 3 → Wk (2 + inner row) 2 (gA W j)) ∧ ∀ j, 3 ≤ j → j < 6 → Wk (2 + inner row) 1 (gA W j) := by
  rw [m_law_walks_eq]
  unfold b_law_walks
  obtain ⟨ei, in0, in1⟩ := inner_ok h
  rw [ei, pbind, pbind, pbind]
  refine ok_bind.mpr (ok_for (fun i s => s.length = i ∧ ∀ k, k < i → Wk (2 + inner row) 2 (gA s k)) ⟨rfl, fun k hk => by omega⟩ (fun i s x hx ⟨sl, sw⟩ => ?_) (fun s ⟨sl, sw⟩ => ?_))
  · obtain ⟨rfl, hi⟩ := upto_at hx
    have p0 := part_get h i (by omega) 0 (by omega)
    have nd : ∀ y : Nat, y < 4 → _ := fun y hy => node_ok h i (by omega) y hy
    rw [show (4 + 10 * (i : Int)) = ((4 + 10 * i : Nat) : Int) by omega, show (14 + 10 * (i : Int)) = ((14 + 10 * i : Nat) : Int) by omega]
    generalize cut row (some ((4 + 10 * i : Nat) : Int)) (some ((14 + 10 * i : Nat) : Int)) = part at p0 nd
    obtain ⟨m, m4, em⟩ := six_ex [2, 3, 4, 1, 3, 0] rfl (by decide) (h.p0 i (by omega)).1 (h.p0 i (by omega)).2
    have p0 : idx part 0 = pure (gA row (4 + 10 * i)) := p0
    rw [pbind, pbind, p0, pbind, em, pbind, rangeO_nat (by omega), pbind]
    refine ok_bind.mpr (ok_for (fun k s => Way (2 + inner row) k s) (way0 _) (fun k s x hx hs => ?_) (fun s' hs => ?_))
    · obtain ⟨rfl, hk⟩ := upto_at hx
      rw [nd k (by omega), pbind, pbind]
      have sl1 : 0 < s.length := by
        obtain ⟨t, e, _⟩ := hs.ex
        rw [e]
        simp
      have sl5 : s.length ≤ k + 1 := by
        obtain ⟨t, e, l, _⟩ := hs.ex
        rw [e]
        simp
        exact l
      have e1 : idx s ((s.length : Int) - 1) = pure (gA s (s.length - 1)) := by
        have := idx_gA (xs := s) (k := s.length - 1) (by omega)
        rw [← this]
        congr 1
        omega
      rw [e1]
      generalize hz : 2 + gA row (4 + 10 * i + (2 + 2 * k)) % max 1 (inner row) = z
      have z0 : 2 ≤ z ∧ z < 2 + max 1 (inner row) := by
        have h1 := Int.emod_nonneg (gA row (4 + 10 * i + (2 + 2 * k))) (show max 1 (inner row) ≠ 0 by omega)
        have h2 := Int.emod_lt_of_pos (gA row (4 + 10 * i + (2 + 2 * k))) (show 0 < max 1 (inner row) by omega)
        omega
      have cond : (if (decide (0 < inner row)) = true then ((pure (gA s (s.length - 1)) : Out Int) >>= fun t11 => pure (!decide (z = t11))) else pure false) = pure (decide (0 < inner row ∧ z ≠ gA s (s.length - 1))) := by
        by_cases c1 : 0 < inner row <;> by_cases c2 : z = gA s (s.length - 1) <;> simp [c1, c2, pbind]
      rw [cond, pbind]
      by_cases c : 0 < inner row ∧ z ≠ gA s (s.length - 1)
      · rw [if_pos (decide_eq_true c), pbind, appO_ok (by omega), pbind, ok_pure]
        exact hs.app z0.1 (by omega) c.2
      · rw [if_neg (by rw [decide_eq_false c]; exact Bool.false_ne_true), ok_pure]
        exact hs.mono (by omega)
    · rw [upto_len] at hs
      have sl5 : s'.length ≤ m + 1 := by
        obtain ⟨t, e, l, _⟩ := hs.ex
        rw [e]
        simp
        exact l
      rw [pbind, appO_ok (by omega), pbind, pbind, appO_ok (by omega), pbind, ok_pure]
      refine ⟨by simp [sl], fun k hk => ?_⟩
      by_cases c : k < i
      · rw [gA_app_l (by omega)]
        exact sw k c
      · rw [gA_app_r (by omega), show k - s.length = 0 by omega, gA_one]
        exact hs.done m4 (by omega)
  · rw [upto_len] at sl sw
    rw [pbind]
    refine ok_bind.mpr (ok_for (fun i t => t.length = 3 + i ∧ (∀ k, k < 3 → Wk (2 + inner row) 2 (gA t k)) ∧ ∀ k, 3 ≤ k → k < 3 + i → Wk (2 + inner row) 1 (gA t k)) ⟨sl, sw, fun k h1 h2 => by omega⟩ (fun i s x hx ⟨sl, sw, sr⟩ => ?_) (fun s ⟨sl, sw, sr⟩ => ?_))
    · obtain ⟨rfl, hi⟩ := upto_at hx
      have p0 := part_get h (3 + i) (by omega) 0 (by omega)
      have nd : ∀ y : Nat, y < 4 → _ := fun y hy => node_ok h (3 + i) (by omega) y hy
      rw [show (34 + 10 * (i : Int)) = ((4 + 10 * (3 + i) : Nat) : Int) by omega, show (44 + 10 * (i : Int)) = ((14 + 10 * (3 + i) : Nat) : Int) by omega]
      generalize cut row (some ((4 + 10 * (3 + i) : Nat) : Int)) (some ((14 + 10 * (3 + i) : Nat) : Int)) = part at p0 nd
      obtain ⟨m, m4, em⟩ := six_ex [2, 3, 4, 3, 2, 4] rfl (by decide) (h.p0 (3 + i) (by omega)).1 (h.p0 (3 + i) (by omega)).2
      have p0 : idx part 0 = pure (gA row (4 + 10 * (3 + i))) := p0
      rw [pbind, pbind, p0, pbind, em, pbind, rangeO_nat (by omega), pbind]
      refine ok_bind.mpr (ok_for (fun k t => t.Nodup ∧ (∀ x ∈ t, 2 ≤ x ∧ x < 2 + max 1 (inner row)) ∧ t.length ≤ k) ⟨by simp, by simp, by simp⟩ (fun k t x hx ⟨nt, ht, lt⟩ => ?_) (fun t ⟨nt, ht, lt⟩ => ?_))
      · obtain ⟨rfl, hk⟩ := upto_at hx
        rw [nd k (by omega), pbind, pbind, pbind]
        generalize hz : 2 + gA row (4 + 10 * (3 + i) + (2 + 2 * k)) % max 1 (inner row) = z
        have z0 : 2 ≤ z ∧ z < 2 + max 1 (inner row) := by
          have h1 := Int.emod_nonneg (gA row (4 + 10 * (3 + i) + (2 + 2 * k))) (show max 1 (inner row) ≠ 0 by omega)
          have h2 := Int.emod_lt_of_pos (gA row (4 + 10 * (3 + i) + (2 + 2 * k))) (show 0 < max 1 (inner row) by omega)
          omega
        by_cases c : z ∈ t
        · rw [if_neg (by simp [c]), ok_pure]
          exact ⟨nt, ht, by omega⟩
        · rw [if_pos (by simp [c]), pbind, appO_ok (by omega), pbind, ok_pure]
          refine ⟨?_, fun y hy => ?_, by simp; omega⟩
          · rw [List.nodup_append]
            refine ⟨nt, by simp, fun a ha b hb => ?_⟩
            simp only [List.mem_singleton] at hb
            rw [hb]
            exact fun q => c (q ▸ ha)
          · rcases List.mem_append.mp hy with q | q
            · exact ht y q
            · simp only [List.mem_singleton] at q
              rw [q]
              exact z0
      · rw [upto_len] at lt
        have put : ∀ w, Wk (2 + inner row) 1 w → (s ++ [w]).length = 3 + (i + 1) ∧ (∀ k, k < 3 → Wk (2 + inner row) 2 (gA (s ++ [w]) k)) ∧ ∀ k, 3 ≤ k → k < 3 + (i + 1) → Wk (2 + inner row) 1 (gA (s ++ [w]) k) := fun w hw => by
          refine ⟨by simp; omega, fun k hk => ?_, fun k h1 h2 => ?_⟩
          · rw [gA_app_l (by omega)]
            exact sw k hk
          · by_cases c : k < 3 + i
            · rw [gA_app_l (by omega)]
              exact sr k h1 c
            · rw [gA_app_r (by omega), show k - s.length = 0 by omega, gA_one]
              exact hw
        rw [pbind]
        by_cases c : 1 < (t.length : Int)
        · have i0 : idx t 0 = pure (gA t 0) := idx_gA (k := 0) (by omega)
          rw [if_pos (decide_eq_true c), i0, pbind, pbind, catO_ok (by simp; omega), pbind, appO_ok (by omega), pbind, ok_pure]
          refine put _ (ring_done nt ?_ lt m4 (by omega))
          rw [show 2 + inner row - 2 = inner row by omega]
          exact ht
        · rw [if_neg (by rw [decide_eq_false c]; exact Bool.false_ne_true), pbind, appO_ok (by omega), pbind, ok_pure]
          exact put _ (wk_home _ (by omega) _)
    · rw [upto_len] at sl sr
      exact ok_pure.mpr ⟨sl, sw, fun j h1 h2 => sr j h1 (by omega)⟩

/-! laying the arcs -/
/-- the arcs p of A go along the walk w -/
structure Path (A : List (Int × Int × Int)) (w p : List Int) : Prop where
  len : p.length + 1 = w.length
  go : ∀ k, k < p.length → 0 ≤ gA p k ∧ gA p k < A.length ∧ tA A (gA p k) = gA w k ∧ hA A (gA p k) = gA w (k + 1)
theorem Path.app {A C : List (Int × Int × Int)} {w p : List Int} (h : Path A w p) : Path (A ++ C) w p := ⟨h.len, fun k hk => by
  obtain ⟨a, b, c, d⟩ := h.go k hk
  refine ⟨a, by rw [List.length_append]; omega, ?_, ?_⟩
  · unfold tA at c ⊢
    rw [gA_app_l (by omega)]
    exact c
  · unfold hA at d ⊢
    rw [gA_app_l (by omega)]
    exact d⟩
structure Arcs (n : Nat) (A : List (Int × Int × Int)) : Prop where
  ok : ∀ a ∈ A, AOk n a ∧ a.2.2 = 1
theorem Arcs.app {n : Nat} {A : List (Int × Int × Int)} (h : Arcs n A) {a : Int × Int × Int} (ha : AOk n a) (h1 : a.2.2 = 1) : Arcs n (A ++ [a]) := ⟨fun x hx => by
  rcases List.mem_append.mp hx with q | q
  · exact h.ok x q
  · simp only [List.mem_singleton] at q
    rw [q]
    exact ⟨ha, h1⟩⟩
theorem arc_at_ok {A : List (Int × Int × Int)} {t h : Int} : Ok (m_law_arc_at (A.map l2) t h) fun x => x = -1 ∨ (0 ≤ x ∧ x < A.length ∧ tA A x = t ∧ hA A x = h) := by
  rw [m_law_arc_at_eq]
  unfold b_law_arc_at
  rw [pbind]
  refine ok_bind.mpr (ok_forR (fun _ _ => True) trivial (fun i s x hx _ => ?_) (fun s _ => ok_pure.mpr (.inl rfl)))
  obtain ⟨rfl, hi⟩ := upto_at hx
  rw [List.length_map] at hi
  rw [idx_gA (by rw [List.length_map]; exact hi), pbind, pbind, gA_map hi]
  by_cases c : l2 (gA A i) = [t, h]
  · rw [if_pos (decide_eq_true c), pbind, ok_pure]
    refine ok_pure.mpr (.inr ?_)
    have e1 : (gA A i).1 = t := by injection c
    have e2 : (gA A i).2.1 = h := by injection c with _ c; injection c
    exact ⟨by omega, by omega, e1, e2⟩
  · rw [if_neg (by rw [decide_eq_false c]; exact Bool.false_ne_true)]
    exact ok_pure.mpr trivial
structure Lay (n : Nat) (W : List (List Int)) (A : List (Int × Int × Int)) (ps : List (List Int)) : Prop where
  arcs : Arcs n A
  len : A.length ≤ 48
  pos : 0 < A.length
  pl : ps.length = 6
  go : ∀ j, j < 6 → Path A (gA W j) (gA ps j)
theorem lay_walk {n : Nat} {row : List Int} (hr : RowOk row) {W : List (List Int)} (hW : W.length = 6) (hw : ∀ j, j < 6 → ∃ c, Wk n c (gA W j)) {j : Nat} (hj : j < 6) {A : List (Int × Int × Int)} (hA0 : Arcs n A) (hl : A.length ≤ 30) :
  Ok (forO (fun (s7 : (List (List Int)) × (List Int)) (x8 : Int) =>
(((idx W (j : Int)) >>= fun t9 => idx t9 x8) >>= fun t11 => ((idx W (j : Int)) >>= fun t10 => idx t10 (x8 + 1)) >>= fun t12 => m_law_arc_at s7.1 t11 t12) >>= fun at_ =>
((if (decide (at_ < 0)) = true then pure true else (idx row ((7 + (10 * (j : Int))) + (2 * (x8 % 4)))) >>= fun t13 => pure (decide (t13 = 0))) >>= fun c14 => if c14 = true then (
(pure (s7.1.length : Int)) >>= fun at_ =>
(((idx W (j : Int)) >>= fun t16 => idx t16 x8) >>= fun t18 => ((idx W (j : Int)) >>= fun t17 => idx t17 (x8 + 1)) >>= fun t19 => pure [t18, t19]) >>= fun a20 => appO s7.1 a20 >>= fun arcs =>
pure (at_, arcs))
else (
pure (at_, s7.1))) >>= fun s15 =>
(pure s15.1) >>= fun a21 => appO s7.2 a21 >>= fun path =>
pure (s15.2, path)) (upto ((gA W j).length - 1)) (A.map l2, [])) fun s => ∃ C, s.1 = (A ++ C).map l2 ∧ Arcs n (A ++ C) ∧ C.length ≤ 5 ∧ Path (A ++ C) (gA W j) s.2 := by
  obtain ⟨c, hc⟩ := hw j hj
  have wl2 := hc.l2
  have wl6 := hc.l6
  have iW : idx W (j : Int) = pure (gA W j) := idx_gA (by omega)
  rw [iW]
  refine ok_for (fun i s => ∃ C, s.1 = (A ++ C).map l2 ∧ Arcs n (A ++ C) ∧ C.length ≤ i ∧ s.2.length = i ∧ ∀ k, k < i → 0 ≤ gA s.2 k ∧ gA s.2 k < (A ++ C).length ∧ tA (A ++ C) (gA s.2 k) = gA (gA W j) k ∧ hA (A ++ C) (gA s.2 k) = gA (gA W j) (k + 1)) ?_ (fun i s x hx ⟨C, e1, ok1, cl, sl, sg⟩ => ?_) (fun s ⟨C, e1, ok1, cl, sl, sg⟩ => ?_)
  · exact ⟨[], by simp, by simpa using hA0, by simp, rfl, fun k hk => by omega⟩
  · obtain ⟨rfl, hi⟩ := upto_at hx
    generalize gA W j = w at *
    have i0 : idx w (i : Int) = pure (gA w i) := idx_gA (by omega)
    have i1 : idx w ((i : Int) + 1) = pure (gA w (i + 1)) := idx_gA (k := i + 1) (by omega)
    simp only [pbind, i0, i1]
    rw [e1]
    obtain ⟨x, ex, hx⟩ := arc_at_ok (A := A ++ C) (t := gA w i) (h := gA w (i + 1))
    rw [ex, pbind]
    have ir : idx row ((7 + (10 * (j : Int))) + (2 * ((i : Int) % 4))) = pure (gA row (7 + 10 * j + 2 * (i % 4))) := by
      have := hr.len
      have e := idx_gA (xs := row) (k := 7 + 10 * j + 2 * (i % 4)) (by omega)
      rw [← e]
      congr 1
    simp only [ir, pbind]
    generalize gA row (7 + 10 * j + 2 * (i % 4)) = z
    have cond : (if (decide (x < 0)) = true then (pure true : Out Bool) else pure (decide (z = 0))) = pure (decide (x < 0 ∨ z = 0)) := by
      by_cases c1 : x < 0 <;> by_cases c2 : z = 0 <;> simp [c1, c2]
    rw [cond, pbind]
    by_cases c0 : x < 0 ∨ z = 0
    · rw [if_pos (decide_eq_true c0), appO_ok (by rw [List.length_map, List.length_append]; omega), pbind, pbind, appO_ok (by omega), pbind, ok_pure]
      obtain ⟨s1, s2, s3, s4, s5, s6, s7⟩ := hc.st i (by omega)
      refine ⟨C ++ [(gA w i, gA w (i + 1), 1)], ?_, ?_, by simp; omega, by simp; omega, fun k hk => ?_⟩
      · rw [← List.append_assoc]
        have em : ∀ (D : List (Int × Int × Int)) (a : Int × Int × Int), D.map l2 ++ [l2 a] = (D ++ [a]).map l2 := fun D a => by rw [List.map_append]; rfl
        exact em (A ++ C) (gA w i, gA w (i + 1), 1)
      · rw [← List.append_assoc]
        exact ok1.app ⟨s1, s2, s3, s4, s5, s6, s7, by show (0 : Int) ≤ 1; decide⟩ rfl
      · rw [← List.append_assoc]
        by_cases ck : k < i
        · obtain ⟨g1, g2, g3, g4⟩ := sg k ck
          have el : gA (s.2 ++ [((List.map l2 (A ++ C)).length : Int)]) k = gA s.2 k := gA_app_l (by omega)
          show 0 ≤ gA (s.2 ++ [((List.map l2 (A ++ C)).length : Int)]) k ∧ _
          rw [el]
          refine ⟨g1, by rw [List.length_append (as := A ++ C)]; omega, ?_, ?_⟩
          · unfold tA at g3 ⊢
            rw [gA_app_l (by omega)]
            exact g3
          · unfold hA at g4 ⊢
            rw [gA_app_l (by omega)]
            exact g4
        · have ek : k = i := by omega
          subst ek
          have el : gA (s.2 ++ [((List.map l2 (A ++ C)).length : Int)]) k = ((A ++ C).length : Int) := by
            rw [gA_app_r (by omega), show k - s.2.length = 0 by omega, gA_one, List.length_map]
          show 0 ≤ gA (s.2 ++ [((List.map l2 (A ++ C)).length : Int)]) k ∧ _
          rw [el]
          refine ⟨by omega, by rw [List.length_append (as := A ++ C), List.length_singleton]; omega, ?_, ?_⟩
          · unfold tA
            rw [Int.toNat_natCast, gA_app_r (Nat.le_refl _), Nat.sub_self, gA_one]
          · unfold hA
            rw [Int.toNat_natCast, gA_app_r (Nat.le_refl _), Nat.sub_self, gA_one]
    · rw [if_neg (by rw [decide_eq_false c0]; exact Bool.false_ne_true), pbind, appO_ok (by omega), pbind, ok_pure]
      refine ⟨C, rfl, ok1, by omega, by simp; omega, fun k hk => ?_⟩
      by_cases ck : k < i
      · obtain ⟨g1, g2, g3, g4⟩ := sg k ck
        have el : gA (s.2 ++ [x]) k = gA s.2 k := gA_app_l (by omega)
        show 0 ≤ gA (s.2 ++ [x]) k ∧ _
        rw [el]
        exact ⟨g1, g2, g3, g4⟩
      · have ek : k = i := by omega
        subst ek
        have el : gA (s.2 ++ [x]) k = x := by rw [gA_app_r (by omega), show k - s.2.length = 0 by omega, gA_one]
        show 0 ≤ gA (s.2 ++ [x]) k ∧ _
        rw [el]
        rcases hx with hx | hx
        · omega
        · exact hx
  · rw [upto_len] at cl sl sg
    exact ⟨C, e1, ok1, by omega, by omega, fun k hk => sg k (by omega)⟩
theorem rot_get {α : Type} [Inhabited α] {xs : List α} {t : Nat} (ht : t < xs.length) {k : Nat} (hk : k < xs.length) : gA (xs.drop (xs.length - t) ++ xs.take (xs.length - t)) ((k + t) % xs.length) = gA xs k := by
  have dl : (xs.drop (xs.length - t)).length = t := by rw [List.length_drop]; omega
  by_cases c : k + t < xs.length
  · rw [Nat.mod_eq_of_lt c, gA_app_r (by omega), gA_take (by omega)]
    congr 1
    omega
  · have e : (k + t) % xs.length = k + t - xs.length := by
      rw [Nat.mod_eq_sub_mod (by omega), Nat.mod_eq_of_lt (by omega)]
    rw [e, gA_app_l (by omega), gA_drop]
    congr 1
    omega
theorem lay_ok {row : List Int} (hr : RowOk row) {W : List (List Int)} (hW : W.length = 6) {n : Nat} (hn : (n : Int) = 2 + inner row) (hw : ∀ j, j < 6 → ∃ c, Wk n c (gA W j)) :
    Ok (m_law_lay row W) fun L => L.1 = (n : Int) ∧ ∃ A, L.2.1 = A.map l2 ∧ Lay n W A L.2.2 := by
  rw [m_law_lay_eq]
  unfold b_law_lay
  obtain ⟨ei, in0, in1⟩ := inner_ok hr
  have rl := hr.len
  rw [ei, pbind, pbind, pbind, pbind]
  refine ok_bind.mpr (ok_for (fun j s => ∃ A, s.1 = A.map l2 ∧ Arcs n A ∧ A.length ≤ 5 * j ∧ s.2.length = j ∧ ∀ i, i < j → Path A (gA W i) (gA s.2 i)) ⟨[], rfl, ⟨by simp⟩, by simp, rfl, fun i hi => by omega⟩ (fun j s x hx ⟨A, e1, ok1, al, sl, sp⟩ => ?_) (fun s ⟨A, e1, ok1, al, sl, sp⟩ => ?_))
  · obtain ⟨rfl, hj⟩ := upto_at hx
    rw [hW] at hj
    have iW : idx W (j : Int) = pure (gA W j) := idx_gA (by omega)
    obtain ⟨c, hc⟩ := hw j hj
    have wl2 := hc.l2
    have wl6 := hc.l6
    have rg : (((idx W (j : Int)) >>= fun t4 => pure (t4.length : Int)) >>= fun t5 => pure (t5 - 1)) >>= (fun t6 => rangeO t6) = pure (upto ((gA W j).length - 1)) := by
      rw [iW, pbind, pbind, pbind, show ((gA W j).length : Int) - 1 = (((gA W j).length - 1 : Nat) : Int) by omega, rangeO_nat (by omega)]
    rw [pbind, rg, pbind, e1]
    refine ok_bind.mpr ((lay_walk hr hW hw hj ok1 (by omega)).imp fun s' ⟨C, e2, ok2, cl, pp⟩ => ?_)
    rw [pbind, appO_ok (by omega), pbind, ok_pure]
    refine ⟨A ++ C, e2, ok2, by rw [List.length_append]; omega, by simp; omega, fun i hi => ?_⟩
    by_cases ci : i < j
    · have el : gA (s.2 ++ [s'.2]) i = gA s.2 i := gA_app_l (by omega)
      show Path _ _ (gA (s.2 ++ [s'.2]) i)
      rw [el]
      exact (sp i ci).app
    · have ek : i = j := by omega
      subst ek
      have el : gA (s.2 ++ [s'.2]) i = s'.2 := by rw [gA_app_r (by omega), show i - s.2.length = 0 by omega, gA_one]
      show Path _ _ (gA (s.2 ++ [s'.2]) i)
      rw [el]
      exact pp
  · rw [upto_len, hW] at al sl sp
    rw [pbind]
    refine ok_bind.mpr (ok_for (fun i t => ∃ C, t = (A ++ C).map l2 ∧ Arcs n (A ++ C) ∧ C.length ≤ i) ⟨[], by simpa using e1, by simpa using ok1, by simp⟩ (fun i t x hx ⟨C, e2, ok2, cl⟩ => ?_) (fun t ⟨C, e2, ok2, cl⟩ => ?_))
    · obtain ⟨rfl, hi⟩ := upto_at hx
      have i0 : idx row (64 + 2 * (i : Int)) = pure (gA row (64 + 2 * i)) := idx_gA (k := 64 + 2 * i) (by omega)
      have i1 : idx row (65 + 2 * (i : Int)) = pure (gA row (65 + 2 * i)) := idx_gA (k := 65 + 2 * i) (by omega)
      rw [i0, pbind, pbind, modO_ok (by omega), pbind, i1, pbind, pbind, modO_ok (by omega), pbind]
      generalize ht : gA row (64 + 2 * i) % (inner row + 1) = a
      generalize hh : gA row (65 + 2 * i) % (inner row + 1) = b
      have a0 : 0 ≤ a := by rw [← ht]; exact Int.emod_nonneg _ (by omega)
      have a1 : a < inner row + 1 := by rw [← ht]; exact Int.emod_lt_of_pos _ (by omega)
      have b0 : 0 ≤ b := by rw [← hh]; exact Int.emod_nonneg _ (by omega)
      have b1 : b < inner row + 1 := by rw [← hh]; exact Int.emod_lt_of_pos _ (by omega)
      have cond : (if (!decide (a = b)) = true then (pure true : Out Bool) else pure (decide (a = 0))) = pure (decide (a ≠ b ∨ a = 0)) := by
        by_cases c1 : a = b <;> by_cases c2 : a = 0 <;> simp [c1, c2]
      rw [cond, pbind]
      by_cases c : a ≠ b ∨ a = 0
      · rw [if_pos (decide_eq_true c), pbind, appO_ok (by rw [e2, List.length_map, List.length_append]; omega), pbind, ok_pure]
        refine ⟨C ++ [(a + (if decide (0 < a) = true then 1 else 0), b + 1, 1)], ?_, ?_, by simp; omega⟩
        · rw [← List.append_assoc, List.map_append, e2]
          rfl
        · rw [← List.append_assoc]
          refine ok2.app ?_ rfl
          by_cases d : 0 < a
          · rw [if_pos (decide_eq_true d)]
            exact ⟨by dsimp only; omega, by dsimp only; omega, by dsimp only; omega, by dsimp only; omega, by dsimp only; omega, by dsimp only; omega, by dsimp only; omega, by dsimp only; omega⟩
          · rw [if_neg (by rw [decide_eq_false d]; exact Bool.false_ne_true)]
            exact ⟨by dsimp only; omega, by dsimp only; omega, by dsimp only; omega, by dsimp only; omega, by dsimp only; omega, by dsimp only; omega, by dsimp only; omega, by dsimp only; omega⟩
      · rw [if_neg (by rw [decide_eq_false c]; exact Bool.false_ne_true), ok_pure]
        exact ⟨C, e2, ok2, by omega⟩
    · rw [upto_len] at cl
      have sp2 : ∀ i, i < 6 → Path (A ++ C) (gA W i) (gA s.2 i) := fun i hi => (sp i hi).app
      have dl : (A ++ C).length ≤ 48 := by rw [List.length_append]; omega
      generalize A ++ C = D at *
      have tl : t.length = D.length := by rw [e2, List.length_map]
      have dpos : 0 < D.length := by
        obtain ⟨c, hc⟩ := hw 0 (by omega)
        have := hc.l2
        have := (sp2 0 (by omega)).len
        have := (sp2 0 (by omega)).go 0 (by omega)
        omega
      have i1 : idx row 1 = pure (gA row 1) := idx_gA (k := 1) (by omega)
      rw [pbind, i1, pbind, pbind, modO_ok (by omega), pbind, pbind, tl]
      generalize htn : gA row 1 % (D.length : Int) = turn
      have t0 : 0 ≤ turn := by rw [← htn]; exact Int.emod_nonneg _ (by omega)
      have t1 : turn < D.length := by rw [← htn]; exact Int.emod_lt_of_pos _ (by omega)
      have et : turn = ((turn.toNat : Nat) : Int) := by omega
      generalize turn.toNat = m at et
      subst et
      refine ok_bind.mpr (ok_for (fun i q => q.length = 6 ∧ ∀ k, k < 6 → gA q k = if k < i then (gA s.2 k).map (fun x => (x + (m : Int)) % (D.length : Int)) else gA s.2 k) ⟨sl, fun k hk => by simp⟩ (fun i q x hx ⟨ql, qg⟩ => ?_) (fun q ⟨ql, qg⟩ => ?_))
      · obtain ⟨rfl, hi⟩ := upto_at hx
        rw [sl] at hi
        have iq : idx q (i : Int) = pure (gA q i) := idx_gA (by omega)
        rw [iq, pbind]
        refine ok_bind.mpr (ok_map (fun x => (x + (m : Int)) % (D.length : Int)) (fun x _ => modO_ok (by omega)) ?_)
        rw [pbind, setO_gA (by omega), pbind, ok_pure]
        refine ⟨by rw [List.length_set]; exact ql, fun k hk => ?_⟩
        rw [gA_set (by omega)]
        have e := qg i hi
        rw [if_neg (Nat.lt_irrefl _)] at e
        by_cases c : i = k
        · subst c
          rw [if_pos rfl, if_pos (by omega), e]
        · rw [if_neg c, qg k hk]
          by_cases d : k < i
          · rw [if_pos d, if_pos (by omega)]
          · rw [if_neg d, if_neg (by omega)]
      · rw [upto_len, sl] at qg
        have c1 : cut t (some ((D.length : Int) - (m : Int))) none = t.drop (D.length - m) := by
          rw [show (D.length : Int) - (m : Int) = ((D.length - m : Nat) : Int) by omega, cut_drop]
        have c2 : cut t none (some ((D.length : Int) - (m : Int))) = t.take (D.length - m) := by
          rw [show (D.length : Int) - (m : Int) = ((D.length - m : Nat) : Int) by omega, cut_take]
        rw [c1, c2, catO_ok (by rw [List.length_drop, List.length_take]; omega), pbind, ok_pure]
        refine ⟨hn.symm, D.drop (D.length - m) ++ D.take (D.length - m), ?_, ?_⟩
        · show t.drop _ ++ t.take _ = _
          rw [e2, List.map_append, List.map_drop, List.map_take]
        · have nl : (D.drop (D.length - m) ++ D.take (D.length - m)).length = D.length := by
            rw [List.length_append, List.length_drop, List.length_take]
            omega
          refine ⟨⟨fun a ha => ?_⟩, by omega, by omega, ql, fun j hj => ⟨?_, fun k hk => ?_⟩⟩
          · rcases List.mem_append.mp ha with z | z
            · exact ok2.ok a (List.mem_of_mem_drop z)
            · exact ok2.ok a (List.mem_of_mem_take z)
          · show (gA q j).length + 1 = _
            rw [qg j hj, if_pos hj, List.length_map]
            exact (sp2 j hj).len
          · have e := qg j hj
            rw [if_pos hj] at e
            have hk : k < (gA s.2 j).length := by
              rw [show (gA q j).length = _ from congrArg List.length e, List.length_map] at hk
              exact hk
            obtain ⟨g1, g2, g3, g4⟩ := (sp2 j hj).go k hk
            show 0 ≤ gA (gA q j) k ∧ gA (gA q j) k < _ ∧ tA _ (gA (gA q j) k) = _ ∧ hA _ (gA (gA q j) k) = _
            rw [e, gA_map hk]
            have ex : (gA (gA s.2 j) k + (m : Int)) % (D.length : Int) = ((((gA (gA s.2 j) k).toNat + m) % D.length : Nat) : Int) := by
              rw [Int.natCast_emod, Int.natCast_add, Int.toNat_of_nonneg g1]
            have rg := rot_get (xs := D) (t := m) (by omega) (k := (gA (gA s.2 j) k).toNat) (by omega)
            rw [ex, nl]
            refine ⟨by omega, ?_, ?_, ?_⟩
            · have := Nat.mod_lt ((gA (gA s.2 j) k).toNat + m) dpos
              omega
            · unfold tA at g3 ⊢
              rw [Int.toNat_natCast, rg]
              exact g3
            · unfold hA at g4 ⊢
              rw [Int.toNat_natCast, rg]
              exact g4

/-! units on the arcs; the program's flow -/
theorem sumTo_ge {f : Nat → Int} {n j : Nat} (hj : j < n) (h : ∀ k, k < n → 0 ≤ f k) : f j ≤ sumTo n f := by
  have e := sumTo_upd (f := f) (g := fun k => if k = j then 0 else f k) hj (fun k _ hk => by simp [hk])
  have p := sumTo_nonneg (f := fun k => if k = j then 0 else f k) (n := n) (fun k hk => by
    by_cases c : k = j
    · simp [c]
    · simp only [if_neg c]
      exact h k hk)
  simp only [if_true] at e
  omega
theorem out_add {A : List (Int × Int × Int)} {s : List Int} {x : Nat} (hx : x < s.length) (a v : Int) : outA A (s.set x (gA s x + a)) v = outA A s v + if (gA A x).1 = v then a else 0 := by
  unfold outA
  rw [List.length_set, sumTo_upd (g := fun k => if (gA A k).1 = v then gA s k else 0) hx (fun k _ hk => by
    have e := gA_set (xs := s) (i := x) (j := k) (a := gA s x + a) hx
    rw [if_neg (fun z => hk z.symm)] at e
    simp only [e])]
  have e := gA_set (xs := s) (i := x) (j := x) (a := gA s x + a) hx
  rw [if_pos rfl] at e
  simp only [e]
  split <;> omega
theorem inn_add {A : List (Int × Int × Int)} {s : List Int} {x : Nat} (hx : x < s.length) (a v : Int) : innA A (s.set x (gA s x + a)) v = innA A s v + if (gA A x).2.1 = v then a else 0 := by
  unfold innA
  rw [List.length_set, sumTo_upd (g := fun k => if (gA A k).2.1 = v then gA s k else 0) hx (fun k _ hk => by
    have e := gA_set (xs := s) (i := x) (j := k) (a := gA s x + a) hx
    rw [if_neg (fun z => hk z.symm)] at e
    simp only [e])]
  have e := gA_set (xs := s) (i := x) (j := x) (a := gA s x + a) hx
  rw [if_pos rfl] at e
  simp only [e]
  split <;> omega
def amt (row : List Int) (j : Nat) : Int := gA row (5 + 10 * j)
theorem take_succ_gA {α : Type} [Inhabited α] {w : List α} {k : Nat} (h : k < w.length) : w.take (k + 1) = w.take k ++ [gA w k] := by
  rw [List.take_add_one, gA_some h]
  rfl
theorem count_one (v x : Int) : List.count v [x] = if x = v then 1 else 0 := by
  by_cases c : x = v
  · subst c
    simp
  · simp [c]
theorem put_ok {A : List (Int × Int × Int)} {row : List Int} (hr : RowOk row) {j : Nat} (hj : j < 6) {w p s0 : List Int} (P : Path A w p) (hl : s0.length = A.length) (h0 : ∀ k, k < s0.length → 0 ≤ gA s0 k) :
  Ok (forO (fun (s19 : (List Int)) (x20 : Int) =>
((idx s19 x20) >>= fun t21 => (idx row (5 + (10 * (j : Int)))) >>= fun t22 => pure (t21 + t22)) >>= fun a23 => (pure x20) >>= fun j24 => setO s19 j24 a23 >>= fun units =>
pure units) p s0) fun s => s.length = A.length ∧ (∀ k, k < s.length → 0 ≤ gA s k) ∧ ∀ v, outA A s v = outA A s0 v + amt row j * (w.dropLast.count v : Nat) ∧ innA A s v = innA A s0 v + amt row j * ((w.drop 1).count v : Nat) := by
  have rl := hr.len
  have ir : idx row (5 + (10 * (j : Int))) = pure (amt row j) := idx_gA (k := 5 + 10 * j) (by omega)
  have am := hr.am j hj
  have a0 : 0 ≤ amt row j := am.1
  have pl := P.len
  refine ok_for (fun i s => s.length = A.length ∧ (∀ k, k < s.length → 0 ≤ gA s k) ∧ ∀ v, outA A s v = outA A s0 v + amt row j * ((w.take i).count v : Nat) ∧ innA A s v = innA A s0 v + amt row j * (((w.drop 1).take i).count v : Nat)) ⟨hl, h0, fun v => by simp⟩ (fun i s x hx ⟨sl, sp, sv⟩ => ?_) (fun s ⟨sl, sp, sv⟩ => ?_)
  · have hi := (List.getElem?_eq_some_iff.mp hx).1
    have ex := gA_of hx
    obtain ⟨g1, g2, g3, g4⟩ := P.go i hi
    rw [ex] at g1 g2 g3 g4
    have xl : x.toNat < s.length := by omega
    have xl2 : x < (s.length : Int) := by omega
    rw [idx_at g1 xl2, pbind, ir, pbind, pbind, pbind, setO_at g1 xl2, pbind, ok_pure]
    refine ⟨by rw [List.length_set]; exact sl, fun k hk => ?_, fun v => ?_⟩
    · rw [List.length_set] at hk
      rw [gA_set xl]
      have := sp _ xl
      have := sp k hk
      split <;> omega
    · obtain ⟨v1, v2⟩ := sv v
      rw [out_add xl, inn_add xl, v1, v2, take_succ_gA (by omega), take_succ_gA (w := w.drop 1) (by rw [List.length_drop]; omega), List.count_append, List.count_append, count_one, count_one, gA_drop, Nat.add_comm 1 i, ← g3, ← g4]
      unfold tA hA
      constructor
      · by_cases c : (gA A x.toNat).1 = v
        · rw [if_pos c, if_pos c, Int.natCast_add, Int.mul_add]
          omega
        · rw [if_neg c, if_neg c, Nat.add_zero]
          omega
      · by_cases c : (gA A x.toNat).2.1 = v
        · rw [if_pos c, if_pos c, Int.natCast_add, Int.mul_add]
          omega
        · rw [if_neg c, if_neg c, Nat.add_zero]
          omega
  · refine ⟨sl, sp, fun v => ?_⟩
    have e1 : w.take p.length = w.dropLast := by rw [List.dropLast_eq_take]; congr 1; omega
    have e2 : (w.drop 1).take p.length = w.drop 1 := List.take_of_length_le (by rw [List.length_drop]; omega)
    rw [e1, e2] at sv
    exact sv v
structure Units (n : Nat) (row : List Int) (W : List (List Int)) (A : List (Int × Int × Int)) (u : List Int) : Prop where
  len : u.length = A.length
  pos : ∀ k, k < u.length → 0 ≤ gA u k
  out : ∀ v, outA A u v = sumTo 6 fun j => amt row j * ((gA W j).dropLast.count v : Nat)
  inn : ∀ v, innA A u v = sumTo 6 fun j => amt row j * (((gA W j).drop 1).count v : Nat)
theorem units_ok {n : Nat} {row : List Int} (hr : RowOk row) {W : List (List Int)} {A : List (Int × Int × Int)} {ps : List (List Int)} (L : Lay n W A ps) : Ok (forO (fun (s17 : (List Int)) (x18 : Int) =>
((idx ps x18) >>= fun xs25 => forO (fun (s19 : (List Int)) (x20 : Int) =>
((idx s19 x20) >>= fun t21 => (idx row (5 + (10 * x18))) >>= fun t22 => pure (t21 + t22)) >>= fun a23 => (pure x20) >>= fun j24 => setO s19 j24 a23 >>= fun units =>
pure units) xs25 s17) >>= fun s26 =>
pure s26) (upto 6) (List.replicate A.length 0)) (Units n row W A) := by
  have z : ∀ F : Nat → Int × Int × Int → Prop, ∀ [∀ k a, Decidable (F k a)], sumTo A.length (fun k => if F k (gA A k) then gA (List.replicate A.length (0 : Int)) k else 0) = 0 := fun F _ => sumTo_zero' fun k hk => by
    rw [gA_rep hk]
    split <;> rfl
  refine ok_for (fun i s => s.length = A.length ∧ (∀ k, k < s.length → 0 ≤ gA s k) ∧ ∀ v, outA A s v = sumTo i (fun j => amt row j * ((gA W j).dropLast.count v : Nat)) ∧ innA A s v = sumTo i (fun j => amt row j * (((gA W j).drop 1).count v : Nat)))
    ⟨by simp, fun k hk => by rw [List.length_replicate] at hk; rw [gA_rep hk]; exact Int.le_refl _, fun v => ⟨?_, ?_⟩⟩ (fun i s x hx ⟨sl, sp, sv⟩ => ?_) (fun s ⟨sl, sp, sv⟩ => ?_)
  · unfold outA
    rw [List.length_replicate]
    exact z (fun _ a => a.1 = v)
  · unfold innA
    rw [List.length_replicate]
    exact z (fun _ a => a.2.1 = v)
  · obtain ⟨rfl, hi⟩ := upto_at hx
    have ip : idx ps (i : Int) = pure (gA ps i) := idx_gA (by have := L.pl; omega)
    rw [ip, pbind]
    refine ok_bind.mpr ((put_ok hr hi (L.go i hi) sl sp).imp fun s' ⟨sl', sp', sv'⟩ => ok_pure.mpr ⟨sl', sp', fun v => ?_⟩)
    obtain ⟨v1, v2⟩ := sv v
    obtain ⟨w1, w2⟩ := sv' v
    rw [w1, w2, v1, v2]
    exact ⟨rfl, rfl⟩
  · rw [upto_len] at sv
    exact ⟨sl, sp, fun v => (sv v).1, fun v => (sv v).2⟩
theorem sum6_le {f : Nat → Int} (h1 : ∀ j, j < 3 → f j ≤ 78) (h2 : ∀ j, 3 ≤ j → j < 6 → f j ≤ 39) : sumTo 6 f ≤ 351 := by
  have := h1 0 (by omega)
  have := h1 1 (by omega)
  have := h1 2 (by omega)
  have := h2 3 (by omega) (by omega)
  have := h2 4 (by omega) (by omega)
  have := h2 5 (by omega) (by omega)
  show 0 + f 0 + f 1 + f 2 + f 3 + f 4 + f 5 ≤ _
  omega
structure WalkOk (n : Int) (W : List (List Int)) : Prop where
  len : W.length = 6
  w : ∀ j, j < 3 → Wk n 2 (gA W j)
  r : ∀ j, 3 ≤ j → j < 6 → Wk n 1 (gA W j)
theorem WalkOk.ex {n : Int} {W : List (List Int)} (h : WalkOk n W) : ∀ j, j < 6 → ∃ c, Wk n c (gA W j) := fun j hj => by
  by_cases c : j < 3
  · exact ⟨2, h.w j c⟩
  · exact ⟨1, h.r j (by omega) hj⟩
theorem mul_cnt {a : Int} {m c : Nat} (h0 : 0 ≤ a) (h1 : a < 40) (h : m ≤ c) : a * (m : Int) ≤ 39 * (c : Int) := by
  have h2 : a * (m : Int) ≤ 39 * (m : Int) := Int.mul_le_mul_of_nonneg_right (by omega) (by omega)
  omega
theorem flow_facts {n : Nat} {row : List Int} (hr : RowOk row) {W : List (List Int)} (hW : WalkOk n W) {A : List (Int × Int × Int)} {u : List Int} (U : Units n row W A u) {v : Int} (hv : 2 ≤ v) : outA A u v = innA A u v ∧ innA A u v ≤ 351 := by
  constructor
  · rw [U.out, U.inn]
    refine sumTo_congr fun j hj => ?_
    obtain ⟨c, hc⟩ := hW.ex j hj
    rw [hc.bal v hv]
  · rw [U.inn]
    refine sum6_le (fun j hj => ?_) (fun j h1 h2 => ?_)
    · have := hr.am j (by omega)
      exact mul_cnt this.1 this.2 ((hW.w j hj).vis v hv)
    · have := hr.am j (by omega)
      exact mul_cnt this.1 this.2 ((hW.r j h1 h2).vis v hv)
theorem units_small {n : Nat} {row : List Int} (hr : RowOk row) {W : List (List Int)} (hW : WalkOk n W) {A : List (Int × Int × Int)} {u : List Int} (U : Units n row W A u) {k : Nat} (hk : k < u.length) : gA u k ≤ 2000 := by
  have h1 := sumTo_ge (f := fun i => if (gA A i).2.1 = (gA A k).2.1 then gA u i else 0) hk (fun i hi => by
    have := U.pos i hi
    split <;> omega)
  simp only [if_true] at h1
  have h2 : gA u k ≤ innA A u (gA A k).2.1 := h1
  rw [U.inn] at h2
  have h3 : ∀ j, j < 6 → amt row j * (((gA W j).drop 1).count (gA A k).2.1 : Nat) ≤ 39 * ((6 : Nat) : Int) := fun j hj => by
    have := hr.am j hj
    obtain ⟨c, hc⟩ := hW.ex j hj
    have l6 := hc.l6
    have l1 := List.count_le_length (a := (gA A k).2.1) (l := (gA W j).drop 1)
    rw [List.length_drop] at l1
    exact mul_cnt this.1 this.2 (by omega)
  have := h3 0 (by omega)
  have := h3 1 (by omega)
  have := h3 2 (by omega)
  have := h3 3 (by omega)
  have := h3 4 (by omega)
  have := h3 5 (by omega)
  have e : ∀ f : Nat → Int, sumTo 6 f = 0 + f 0 + f 1 + f 2 + f 3 + f 4 + f 5 := fun f => rfl
  rw [e] at h2
  omega
/-! ### the program's sums -/
theorem zip_gA {A : List (Int × Int × Int)} {u : List Int} {i : Nat} (h1 : i < A.length) (h2 : i < u.length) : (List.zip A u)[i]? = some (gA A i, gA u i) := by
  rw [List.getElem?_zip_eq_some]
  exact ⟨gA_some h1, gA_some h2⟩
theorem node_sums_ok {rooms gains : List Int} {A : List (Int × Int × Int)} (hA0 : ∀ a ∈ A, AOk rooms.length a) (hn : rooms.length < 1000000) {u : List Int} (hu : u.length = A.length) : Ok (m_node_sums (rooms, gains, A) u) fun s => s.1.length = rooms.length ∧ s.2.length = rooms.length ∧ ∀ v : Nat, v < rooms.length → gA s.1 v = innA A u v ∧ gA s.2 v = outA A u v := by
  rw [m_node_sums_eq]
  unfold b_node_sums
  have nc : noErr (m_Web_node_count (rooms, gains, A)) = pure (rooms.length : Int) := by
    rw [m_Web_node_count_eq]
    rfl
  have rp : repO [(0 : Int)] (rooms.length : Int) = pure (List.replicate rooms.length 0) := repO_nat (by omega)
  rw [nc, pbind, rp, pbind, pbind]
  refine ok_bind.mpr (ok_for (fun i s => s.1.length = rooms.length ∧ s.2.length = rooms.length ∧ ∀ v : Nat, v < rooms.length → gA s.1 v = sumTo i (fun k => if (gA A k).2.1 = (v : Int) then gA u k else 0) ∧ gA s.2 v = sumTo i (fun k => if (gA A k).1 = (v : Int) then gA u k else 0))
    ⟨by simp, by simp, fun v hv => by rw [gA_rep hv]; exact ⟨rfl, rfl⟩⟩ (fun i s x hx ⟨l1, l2, hv⟩ => ?_) (fun s ⟨l1, l2, hv⟩ => ?_))
  · have hi := (List.getElem?_eq_some_iff.mp hx).1
    rw [List.length_zip] at hi
    rw [zip_gA (by omega) (by omega)] at hx
    cases hx
    have ok := hA0 _ (gA_mem (show i < A.length by omega))
    have t0 := ok.t0
    have t1 := ok.t1
    have h0 := ok.h0
    have h1 := ok.h1
    simp only [pbind]
    rw [idx_at t0 (show (gA A i).1 < (s.2.length : Int) by omega), pbind, setO_at t0 (show (gA A i).1 < (s.2.length : Int) by omega), pbind]
    rw [idx_at h0 (show (gA A i).2.1 < (s.1.length : Int) by omega), pbind, setO_at h0 (show (gA A i).2.1 < (s.1.length : Int) by omega), pbind, ok_pure]
    refine ⟨by rw [List.length_set]; exact l1, by rw [List.length_set]; exact l2, fun v hvn => ?_⟩
    have e1 := gA_set (xs := s.1) (i := (gA A i).2.1.toNat) (a := gA s.1 (gA A i).2.1.toNat + gA u i) (j := v) (by omega)
    have e2 := gA_set (xs := s.2) (i := (gA A i).1.toNat) (a := gA s.2 (gA A i).1.toNat + gA u i) (j := v) (by omega)
    obtain ⟨v1, v2⟩ := hv v hvn
    constructor
    · show gA (s.1.set _ _) v = sumTo i _ + _
      rw [e1]
      dsimp only
      by_cases c : (gA A i).2.1 = (v : Int)
      · rw [if_pos (by omega), if_pos c, ← v1, show (gA A i).2.1.toNat = v by omega]
      · rw [if_neg (by omega), if_neg c, ← v1, Int.add_zero]
    · show gA (s.2.set _ _) v = sumTo i _ + _
      rw [e2]
      dsimp only
      by_cases c : (gA A i).1 = (v : Int)
      · rw [if_pos (by omega), if_pos c, ← v2, show (gA A i).1.toNat = v by omega]
      · rw [if_neg (by omega), if_neg c, ← v2, Int.add_zero]
  · have lz : (List.zip A u).length = u.length := by rw [List.length_zip]; omega
    rw [lz] at hv
    exact ok_pure.mpr ⟨l1, l2, hv⟩
theorem r2_ok {n : Nat} (h : n < 1000000) : range2O 2 (n : Int) = pure (fromto 2 (n : Int)) := by
  unfold range2O
  first
  | exact if_pos (by omega)
  | exact if_pos ⟨by omega, by omega⟩
theorem mem_fromto {a b x : Int} (h : x ∈ fromto a b) : a ≤ x ∧ x < b := by
  unfold fromto at h
  simp only [List.mem_map, List.mem_range] at h
  omega
theorem fault_ok {rooms gains : List Int} {A : List (Int × Int × Int)} (hA0 : ∀ a ∈ A, AOk rooms.length a) (hn : rooms.length < 1000000) {u : List Int} (hu : u.length = A.length) (h0 : ∀ k, k < u.length → 0 ≤ gA u k)
    (hb : ∀ v : Nat, 2 ≤ v → v < rooms.length → outA A u v = innA A u v ∧ innA A u v ≤ gA rooms v) : m_flow_fault (rooms, gains, A) u = pure none := by
  rw [m_flow_fault_eq]
  unfold b_flow_fault
  have nc : noErr (m_Web_node_count (rooms, gains, A)) = pure (rooms.length : Int) := by
    rw [m_Web_node_count_eq]
    rfl
  obtain ⟨s, es, l1, l2, hs⟩ := node_sums_ok (gains := gains) hA0 hn hu
  refine Ok.eq ?_
  rw [pbind]
  refine ok_bind.mpr (ok_forR (fun _ _ => True) trivial (fun i s x hx _ => ?_) (fun _ _ => ?_))
  · have hl := (List.getElem?_eq_some_iff.mp hx).1
    rw [enumL_len] at hl
    rw [enumL_get (gA_some hl)] at hx
    cases hx
    have := h0 i hl
    rw [pbind, if_neg (by rw [decide_eq_false (show ¬ gA u i < 0 by omega)]; exact Bool.false_ne_true)]
    exact ok_pure.mpr trivial
  · dsimp only
    rw [es, pbind, nc, pbind, r2_ok hn, pbind]
    refine ok_bind.mpr (ok_forR (fun _ _ => True) trivial (fun i _ x hx _ => ?_) (fun _ _ => ?_))
    · have hx := mem_fromto (List.mem_of_getElem? hx)
      have x0 : 0 ≤ x := by omega
      obtain ⟨s1, s2⟩ := hs x.toNat (by omega)
      have b := (hb x.toNat (by omega) (by omega)).1
      rw [idx_at x0 (show x < (s.1.length : Int) by omega), pbind, idx_at x0 (show x < (s.2.length : Int) by omega), pbind, pbind, s1, s2, b, decide_eq_true rfl, if_neg (by decide)]
      exact ok_pure.mpr trivial
    · dsimp only
      refine ok_bind.mpr (ok_forR (fun _ _ => True) trivial (fun i _ x hx _ => ?_) (fun _ _ => ?_))
      · have hx := mem_fromto (List.mem_of_getElem? hx)
        have x0 : 0 ≤ x := by omega
        obtain ⟨s1, s2⟩ := hs x.toNat (by omega)
        have b := (hb x.toNat (by omega) (by omega)).2
        have ir : idx rooms x = pure (gA rooms x.toNat) := idx_at x0 (by omega)
        rw [idx_at x0 (show x < (s.1.length : Int) by omega), pbind, ir, pbind, pbind, s1, decide_eq_false (show ¬ gA rooms x.toNat < innA A u x.toNat by omega), if_neg (by decide)]
        exact ok_pure.mpr trivial
      · exact ok_pure.mpr rfl
theorem total_ok {rooms gains : List Int} {A : List (Int × Int × Int)} (hA0 : ∀ a ∈ A, AOk rooms.length a) (hn : rooms.length < 1000000) (h1 : 0 < rooms.length) {u : List Int} (hu : u.length = A.length) : m_flow_total (rooms, gains, A) u = pure (outA A u 0) := by
  rw [m_flow_total_eq]
  unfold b_flow_total
  obtain ⟨s, es, l1, l2, hs⟩ := node_sums_ok (gains := gains) hA0 hn hu
  have i0 : idx s.2 0 = pure (gA s.2 0) := idx_gA (k := 0) (by omega)
  rw [es, pbind, pbind, i0]
  exact congrArg pure (hs 0 h1).2
theorem stays_ok {rooms gains : List Int} {A : List (Int × Int × Int)} (hr : ∀ x ∈ rooms, x.natAbs < 1000000000000) (hg : ∀ x ∈ gains, x.natAbs < 1000000000000) (hA0 : ∀ a ∈ A, a.1.natAbs < 1000000000000 ∧ a.2.1.natAbs < 1000000000000 ∧ a.2.2.natAbs < 1000000000000) (l1 : rooms.length ≤ 1000) (l2 : gains.length ≤ 1000) (l3' : A.length ≤ 1000) : m_law_web_stays (rooms, gains, A) (rooms, gains, A.map l3) = pure true := by
  rw [m_law_web_stays_eq]
  unfold b_law_web_stays
  have m3 : mapO (fun arc1 => (pure arc1 : Out (List Int))) (A.map l3) = pure ((A.map l3).map fun x => x) := mapO_ok _ fun _ _ => rfl
  dsimp only
  rw [m3, List.map_id', pbind, pbind, pbind]
  have e2 : (cL3 (cTup cInt) (cTup cInt) (cTup (cTup cInt))).d (rooms, gains, A.map l3) = (cL3 (cTup cInt) (cTup cInt) (cTup (cT3 cInt cInt cInt))).d (rooms, gains, A) := by
    show PyData.list [_, _, PyData.tuple ((A.map l3).map _)] = PyData.list [_, _, PyData.tuple (A.map _)]
    rw [List.map_map]
    rfl
  rw [e2]
  have nums : ∀ xs : List Int, (∀ x ∈ xs, x.natAbs < 1000000000000) → xs.length ≤ 1000 → Rp ((cTup cInt).d xs) 1000 := fun xs h hl => by
    have h1 : RpAll (xs.map cInt.d) (xs.length * (0 + 1)) := rp_map fun x hx => rp_int (h x hx)
    exact (rp_tup h1).mono (by omega)
  have arcs : Rp ((cTup (cT3 cInt cInt cInt)).d A) 4000 := by
    have h1 : RpAll (A.map (cT3 cInt cInt cInt).d) (A.length * (3 + 1)) := rp_map fun a ha => by
      obtain ⟨a1, a2, a3⟩ := hA0 a ha
      exact rp_tup (rp_cons (rp_int a1) (rp_cons (rp_int a2) (rp_cons (rp_int a3) rp_nil (Nat.le_refl _)) (Nat.le_refl _)) (by omega))
    exact (rp_tup h1).mono (by omega)
  have all : Rp ((cL3 (cTup cInt) (cTup cInt) (cTup (cT3 cInt cInt cInt))).d (rooms, gains, A)) 6003 := rp_list (rp_cons (nums rooms hr l1) (rp_cons (nums gains hg l2) (rp_cons arcs rp_nil (Nat.le_refl _)) (Nat.le_refl _)) (by omega))
  rw [all.repr (.inl rfl) (Nat.le_trans ((cL3 (cTup cInt) (cTup cInt) (cTup (cT3 cInt cInt cInt))).dep _) (by decide)) (by decide), pbind, pbind, decide_eq_true rfl]

/-! the law -/
theorem free_ex : ∃ S : List Int, ((repO [7] 48) >>= fun t11 => (repO [3] 40) >>= fun t12 => catO t11 t12) = pure S ∧ S.length = 88 ∧ (∀ s ∈ S, 0 < s ∧ s < 1073741824) ∧ ∀ k, k < 88 → S[k]? = some (if k < 48 then 7 else 3) := ⟨_, rfl, rfl, by decide +kernel, by decide +kernel⟩
theorem row_ok (script : List Int) : Ok ((m_law_cell script 0) >>= fun t8 => (((((((repO [38, 5] 4) >>= fun t1 => catO [6, 40] t1) >>= fun t2 => repO t2 6) >>= fun t3 => catO [10, 45, 4, 2] t3) >>= fun t4 => (repO [39] 16) >>= fun t5 => catO t4 t5) >>= fun t6 => catO t6 [24]) >>= fun t7 => catO t7 [40, 40, 6, 2]) >>= fun t9 => m_law_digits t8 t9) RowOk := by
  obtain ⟨c, ec⟩ := cell_ok script 0 (by omega) (by omega)
  obtain ⟨S, eS, Sl, Sp, S0, Sj, S1, S2, S3⟩ := sizes85
  obtain ⟨row, er, rl, rd⟩ := digits_ok c S Sp (by rw [Sl]; decide)
  rw [ec, pbind, eS, pbind]
  refine ⟨row, er, ?_⟩
  rw [Sl] at rl
  have rg : ∀ k, k < 85 → ∀ z, S[k]? = some z → 0 ≤ gA row k ∧ gA row k < z := fun k hk z hz => rd k _ z (gA_some (by omega)) hz
  exact ⟨rl, rg 0 (by omega) _ S0, fun j hj => rg _ (by omega) _ (Sj j hj).1, fun j hj => rg _ (by omega) _ (Sj j hj).2, (rg 81 (by omega) _ S1).1, (rg 82 (by omega) _ S2).1, rg 83 (by omega) _ S3⟩
theorem mulO_l {i j : Int} (h1 : -(2 ^ 64) < i) (h2 : i < 2 ^ 64) : mulO i j = pure (i * j) := if_pos (.inl ⟨h1, h2⟩)
theorem math (script : List Int) (hs : script.length ≤ 63) : m_law script = pure true := by
  rw [m_law_eq]
  refine Ok.eq ?_
  unfold b_law
  refine ok_bind.mpr ((row_ok script).imp fun row hr => ?_)
  have rl := hr.len
  obtain ⟨_, in0, in1⟩ := inner_ok hr
  obtain ⟨n, hn⟩ : ∃ n : Nat, (n : Int) = 2 + inner row := ⟨(2 + inner row).toNat, by omega⟩
  obtain ⟨W, eW, W6, Ww, Wr⟩ := walks_ok hr
  rw [← hn] at Ww Wr
  have hW : WalkOk n W := ⟨W6, Ww, Wr⟩
  rw [eW, pbind]
  refine ok_bind.mpr ((lay_ok hr W6 hn hW.ex).imp fun L ⟨eL, A, eA, lay⟩ => ?_)
  obtain ⟨L1, L2, ps⟩ := L
  dsimp only at eL eA lay ⊢
  subst eL eA
  obtain ⟨cf, ecf⟩ := cell_ok script 1 (by omega) (by omega)
  obtain ⟨S, eS, Sl, Sp, Sg⟩ := free_ex
  obtain ⟨free, ef, fl, fd⟩ := digits_ok cf S Sp (by rw [Sl]; decide)
  rw [Sl] at fl
  have fg : ∀ k, k < 88 → 0 ≤ gA free k ∧ gA free k < 7 := fun k hk => by
    have := fd k _ _ (gA_some (by omega)) (Sg k hk)
    split at this <;> omega
  rw [ecf, pbind, eS, pbind, ef, pbind, pbind]
  have Al := lay.len
  have Apos := lay.pos
  have Aok : ∀ a ∈ A, AOk n a := fun a ha => (lay.arcs.ok a ha).1
  have m0 : mapO (fun arc15 => (pure 0 : Out Int)) (A.map l2) = pure (List.replicate A.length 0) := by
    rw [mapO_ok (g := fun _ => 0) (A.map l2) fun _ _ => rfl, SM.map_const, List.length_map]
  rw [m0, pbind, pbind]
  refine ok_bind.mpr ((units_ok hr lay).imp fun u U => ?_)
  have ul := U.len
  have K : Lk (A.map l2) A n := lk2 Aok (by omega) (by omega)
  obtain ⟨sm, esm, sl1, sl2, sv⟩ := sums_ok K ul
  have rn : rangeO (n : Int) = pure (upto n) := rangeO_nat (by omega)
  rw [esm, pbind, pbind, rn, pbind]
  refine ok_bind.mpr (ok_map (fun k => min 400 (gA sm.1 k.toNat + 200 * gA free (48 + k.toNat))) (fun k hk => by
    have hk := upto_mem.mp hk
    have i1 : idx sm.1 k = pure (gA sm.1 k.toNat) := idx_at hk.1 (by omega)
    have i2 : idx free (48 + k) = pure (gA free (48 + k.toNat)) := by
      rw [idx_at (by omega) (by omega)]
      congr 2
      omega
    rw [i1, pbind, i2, pbind, pbind, pbind]) ?_)
  have rml : ((upto n).map fun k => min 400 (gA sm.1 k.toNat + 200 * gA free (48 + k.toNat))).length = n := by rw [List.length_map, upto_len]
  have rmg : ∀ v : Nat, 2 ≤ v → v < n → innA A u v ≤ gA ((upto n).map fun k => min 400 (gA sm.1 k.toNat + 200 * gA free (48 + k.toNat))) v := fun v v2 vn => by
    rw [gA_map (by rw [upto_len]; exact vn), gA_upto vn]
    have := (flow_facts hr hW U (v := v) (by omega)).2
    rw [← (sv v vn).1] at this ⊢
    have := fg (48 + v) (by omega)
    rw [Int.toNat_natCast]
    omega
  have rmn : ∀ x ∈ ((upto n).map fun k => min 400 (gA sm.1 k.toNat + 200 * gA free (48 + k.toNat))), 0 ≤ x ∧ x ≤ 400 := fun x hx => by
    obtain ⟨k, hk, rfl⟩ := List.mem_map.mp hx
    have hk := upto_mem.mp hk
    have h1 := (sv k.toNat (by omega)).1
    have h2 : 0 ≤ innA A u (k.toNat : Int) := sumTo_nonneg fun i hi => by
      have := U.pos i hi
      split <;> omega
    have := fg (48 + k.toNat) (by omega)
    rw [← h1] at h2
    omega
  generalize (upto n).map (fun k => min 400 (gA sm.1 k.toNat + 200 * gA free (48 + k.toNat))) = rooms at rml rmg rmn
  have m1 : mapO (fun arc37 => (idx arc37 0) >>= fun t38 => (idx arc37 1) >>= fun t39 => (pure [t38, t39, 1] : Out (List Int))) (A.map l2) = pure (A.map l3) := by
    have m4 := mapO_ok (f := fun arc18 => (idx arc18 0) >>= fun t19 => (idx arc18 1) >>= fun t20 => (pure [t19, t20, 1] : Out (List Int))) (g := fun x => [gA x 0, gA x 1, 1]) (A.map l2) (fun x hx => by
      obtain ⟨a, _, rfl⟩ := List.mem_map.mp hx
      rfl)
    rw [m4, List.map_map]
    congr 1
    refine List.map_congr_left fun a ha => ?_
    show [a.1, a.2.1, 1] = [a.1, a.2.1, a.2.2]
    rw [(lay.arcs.ok a ha).2]
  have m2 : mapO (fun room41 => (pure 1 : Out Int)) rooms = pure (List.replicate n 1) := by
    rw [mapO_ok (g := fun _ => 1) rooms fun _ _ => rfl, SM.map_const, rml]
  have m3 : mapO (fun arc38 => (pure arc38 : Out (List Int))) (A.map l3) = pure ((A.map l3).map fun x => x) := mapO_ok _ fun _ _ => rfl
  have Aok2 : ∀ a ∈ A, AOk rooms.length a := by rw [rml]; exact Aok
  rw [pbind, m1, pbind, m2, pbind, m3, List.map_id', pbind, pbind, init_ok Aok2, pbind, without_same]
  obtain ⟨r, er, hr2, nr⟩ := without_ok (web := (rooms, List.replicate n 1, A)) (u := u) ul.symm (by omega) U.pos
  have rl2 : r.length = A.length := hr2.len.trans ul
  have r0 : ∀ k, k < r.length → 0 ≤ gA r k := fun k hk => (hr2.bd k (by omega)).1
  have fault : m_flow_fault (rooms, List.replicate n 1, A) r = pure none := fault_ok Aok2 (by omega) rl2 r0 fun v v2 vn => by
    have b := hr2.bal (v : Int)
    have f := (flow_facts hr hW U (v := v) (by omega)).1
    have le : innA A r v ≤ innA A u v := by
      unfold innA
      rw [hr2.len]
      refine sumTo_le fun k hk => ?_
      have := hr2.bd k hk
      split <;> omega
    have := rmg v v2 (by omega)
    dsimp only at b
    omega
  have tot := total_ok (gains := List.replicate n 1) Aok2 (by omega) (by omega) rl2
  have home : ∀ s : List Int, s.length = A.length → innA A s 0 = 0 := fun s hs => sumTo_zero' fun k hk => by
    rw [if_neg (Aok _ (gA_mem (by omega))).hh]
  have out0 : outA A r 0 = outA A u 0 := by
    have b := hr2.bal 0
    dsimp only at b
    rw [home r rl2, home u ul] at b
    omega
  have i0 : idx sm.2 0 = pure (outA A u 0) := by
    have := idx_gA (xs := sm.2) (k := 0) (by omega)
    rw [(sv 0 (by omega)).2] at this
    exact this
  have i2 : idx row 2 = pure (gA row 2) := idx_gA (k := 2) (by omega)
  have i3 : idx row 3 = pure (gA row 3) := idx_gA (k := 3) (by omega)
  have i80 : idx row 80 = pure (gA row 80) := idx_gA (k := 80) (by omega)
  rw [er, pbind, right_ok K ul hr2 nr, pbind, pbind, Bool.not_true, if_neg Bool.false_ne_true, fault, pbind, pbind]
  rw [show (none : Option (Str × Int)).isSome = false from rfl, if_neg Bool.false_ne_true, tot, pbind, whole_ok, pbind, pbind, Bool.not_true, if_neg Bool.false_ne_true, pbind, pbind, i0, pbind, pbind, out0, decide_eq_true rfl, Bool.not_true, if_neg Bool.false_ne_true, i2, pbind, pbind]
  have big : ∃ u2 : List Int, (if decide (gA row 2 = 0) = true then (
(((pure u) >>= fun xs63 => mapO (fun number61 => (mulO number61 100000000000000000000) >>= fun t62 => pure (t62 + number61)) xs63) >>= fun units =>
pure units : Out (List Int))) else (pure u)) = pure u2 ∧ u2.length = A.length ∧ ∀ k, k < u2.length → 0 ≤ gA u2 k := by
    by_cases c : gA row 2 = 0
    · rw [if_pos (decide_eq_true c), pbind]
      have m5 : mapO (fun number61 => (mulO number61 100000000000000000000) >>= fun t62 => pure (t62 + number61)) u = pure (u.map fun x => x * 100000000000000000000 + x) := mapO_ok u fun x hx => by
        obtain ⟨k, hk, e⟩ := mem_gA hx
        have h1 := U.pos k hk
        have h2 := units_small hr hW U hk
        rw [e] at h1 h2
        rw [mulO_l (by omega) (by omega)]
        rfl
      rw [m5, pbind]
      refine ⟨_, rfl, by rw [List.length_map]; exact ul, fun k hk => ?_⟩
      rw [List.length_map] at hk
      rw [gA_map hk]
      have h1 := U.pos k hk
      omega
    · rw [if_neg (by rw [decide_eq_false c]; exact Bool.false_ne_true)]
      exact ⟨u, rfl, ul, U.pos⟩
  obtain ⟨u2, e2, u2l, u2p⟩ := big
  rw [e2, pbind, pbind]
  refine ok_bind.mpr (ok_map (fun k => gA free k.toNat * (if gA free k.toNat < 6 then 1 else 0)) (fun k hk => by
    have hk := upto_mem.mp hk
    rw [List.length_map] at hk
    have i1 : idx free k = pure (gA free k.toNat) := idx_at hk.1 (by omega)
    have := fg k.toNat (by omega)
    rw [i1, pbind, pbind, pbind, pbind, mulO_l (by omega) (by omega)]
    by_cases c : gA free k.toNat < 6
    · rw [if_pos c, if_pos (decide_eq_true c)]
    · rw [if_neg c, if_neg (by rw [decide_eq_false c]; exact Bool.false_ne_true)]) ?_)
  have s2l : ((upto (A.map l2).length).map fun k => gA free k.toNat * (if gA free k.toNat < 6 then 1 else 0)).length = A.length := by rw [List.length_map, upto_len, List.length_map]
  have s2p : ∀ k, k < ((upto (A.map l2).length).map fun k => gA free k.toNat * (if gA free k.toNat < 6 then 1 else 0)).length → 0 ≤ gA ((upto (A.map l2).length).map fun k => gA free k.toNat * (if gA free k.toNat < 6 then 1 else 0)) k := fun k hk => by
    have hk2 := hk
    rw [s2l] at hk2
    rw [gA_map (by rw [upto_len, List.length_map]; exact hk2), gA_upto (by rw [List.length_map]; exact hk2)]
    have := fg k (by omega)
    rw [Int.toNat_natCast]
    split <;> omega
  generalize (upto (A.map l2).length).map (fun k => gA free k.toNat * (if gA free k.toNat < 6 then 1 else 0)) = some2 at s2l s2p
  have K2 : Lk (A.map l2) (rooms, List.replicate n (1 : Int), A).2.2 n := K
  have ask1 : ∀ b, m_law_asked (rooms, List.replicate n 1, A) (n : Int) (A.map l2) u2 b = pure true := fun b => asked_ok K2 u2l u2p b
  have ask2 : ∀ b, m_law_asked (rooms, List.replicate n 1, A) (n : Int) (A.map l2) some2 b = pure true := fun b => asked_ok K2 s2l s2p b
  rw [i3, pbind, pbind, ask1, pbind, pbind, Bool.not_true, if_neg Bool.false_ne_true, pbind, pbind, ask2, pbind, pbind, Bool.not_true, if_neg Bool.false_ne_true, i80, pbind, pbind]
  have lg : (if decide (gA row 80 = 0) = true then ((m_law_large_right script) >>= fun t79 => pure (!t79)) else (pure false : Out Bool)) = pure false := by
    rw [large_ok, pbind, Bool.not_true]
    split <;> rfl
  have cutrow : cut row (some 81) none = row.drop 81 := cut_drop row 81
  have ln : m_law_long_right (cut row (some 81) none) = pure true := by
    rw [cutrow]
    refine long_ok (by rw [List.length_drop]; omega) ?_ ?_ ?_
    · rw [gA_drop]; exact hr.l0
    · rw [gA_drop]; exact hr.l1
    · rw [gA_drop]; exact hr.l2
  rw [lg, pbind, if_neg Bool.false_ne_true, ln, pbind, pbind, Bool.not_true, if_neg Bool.false_ne_true, pbind, pbind, ask1, pbind, pbind, Bool.not_true, if_neg Bool.false_ne_true, pbind]
  refine ok_of (stays_ok (fun x hx => ?_) (fun x hx => ?_) (fun a ha => ?_) (by omega) (by simp; omega) (by omega)) rfl
  · have := rmn x hx
    omega
  · have := List.eq_of_mem_replicate hx
    subst this
    decide
  · obtain ⟨ok, e1⟩ := lay.arcs.ok a ha
    have h1 := ok.t0
    have h2 := ok.t1
    have h3 := ok.h0
    have h4 := ok.h1
    rw [e1]
    exact ⟨by omega, by omega, by decide⟩

end My
set_option maxHeartbeats 0
open PySem PySem.W PySem.Calls PyProof.Rows
theorem PySem.Challenge.cw_sloweralone_k13_rings_out_holds : PySem.Challenge.rw_sloweralone_k13_rings_out.Holds := by
  w_on; o_law
  refine HandSHeadRun.head_any (r := OpenLaw.row PySem.Challenge.rw_sloweralone_k13_rings_out) (q := view (OpenLaw.row PySem.Challenge.rw_sloweralone_k13_rings_out).prog [33]) (H := My.hk) (ob := My.ob) (M := 2000) (loose := My.loose) (d := HandSHeadRun.topDef (OpenLaw.row PySem.Challenge.rw_sloweralone_k13_rings_out).prog 33) (kwd := []) My.ob_eq
    (by kernel_rfl) (fun s => by kernel_rfl) My.run (by kernel_rfl) (by kernel_rfl) (by kernel_rfl) (by rfl) (by first | assumption | decide +kernel) (by decide +kernel) ⟨rfl, rfl, rfl, rfl, rfl, by decide +kernel⟩ ?hw ?hc
  case hw => w_witness2
  case hc =>
    refine SL.walk_law (l := PySem.Challenge.rw_sloweralone_k13_rings_out) (n := 63) (k := 13) (x := "script") (m := My.m_law) rfl (by decide) (by kernel_rfl) ⟨rfl, by decide, by decide⟩ ?F My.math
    intro w mg fa h Y G hmg0
    obtain ⟨K, KX, c⟩ := Y
    have hmg : mg ("law" : PySem.Str) = some (.ref fa) := by
      have e : (HandSHeadRun.topDef (OpenLaw.row PySem.Challenge.rw_sloweralone_k13_rings_out).prog 33).name = ("law" : PySem.Str) := by kernel_rfl
      rw [← e]
      exact hmg0
    obtain ⟨fd, hb, hF⟩ := My.facts (P := (PySem.Challenge.rw_sloweralone_k13_rings_out).prog) (w := w) KX G hmg c
    exact ⟨K, fd, KX, hb, hF⟩
