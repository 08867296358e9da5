import PyProof.Rows.All
import Wide.All
import OpenK.AllK
import Wide.FinOn
import PyProof.InstNe
import PyProof.EqKinds
import PyProof.NeData
import HandS.Base
import HandS.Call
import HandS.Exc
import HandS.ExcCtx
import HandS.HotCalls
import HandS.TryMany
import HandS.Small
import HandS.ExcInit
import KE.KEqNest
import PyProof.NeKinds
import PyProof.EqAt
import HandS.DictEq
import PyProof.ReprRoads
import HandS.ForMost
import HandS.ForExc
import HandS.Wide
import HandS.WideBits
import HandS.CallSlots
import HandS.RaiseMore
import HandS.FStr
import HandS.Deep
import HandS.TupAny
import HandS.TupMul
import HandS.IsInst
import HandS.Strs
import PyProof.WalkInts
import PyProof.WalksMore
import HandS.List
import HandS.TupLen
import KE.DatumOrd
import HandS.Conv
import HandS.More
import HandS.SetFor
import HandS.Finally
import HandS.Zip
import HandS.Rev
import KE.GoesMore
import KE.GoesZip
import HandS.Style
import HandS.SetKeys
import KE.KRevIter
import KE.KDictList
import PyProof.Rows.SetFrom
import PyProof.SetRoads
import HandS.Set
import HandS.ListItems
import HandS.DictTup
import HandS.ExcField
import KE.KExcIs
import HandS.TryOnly
import HandS.Defaults
import PyProof.StrLawsRepr
import PySem.Challenge.RW_loafshares_k16_refusals_told_apart
set_option Elab.async false
set_option linter.all false
set_option maxRecDepth 100000
set_option maxHeartbeats 8000000

namespace L4N
open PySem PySem.W PySem.Spec PyProof.Rows
section
variable {prog : Program} {w : World} {A : Around} {E : Value → Shared → Prop} {s : Shared} {K : Frag} {x C f : Addr} {ox : Obj} {od : Option Obj} {b : Value}
end

section
open AutoSeq1 (wpAny_loadPart')
open SeqAt MeetsSeq
variable {prog : Program} {w : World} {A : Around} {E : Value → Shared → Prop} {s : Shared} {K : Frag} {x C : Addr} {od : Option Obj} {dx l : Addr} {items : Array Value} {Q : Value → Shared → Prop}
inductive Kd : String → Value → Prop
  | non : Kd "NoneType" .none
  | int (b : Int) (u : Tok) : Kd "int" (.int b u)
  | str (b : Str) (u : Tok) : Kd "str" (.str b u)
end
end L4N

namespace L4T
open PySem PySem.Spec PyProof.Rows L2
theorem takes0 {X : Cx} : L2N.Takes X (fun _ _ _ _ => False) := fun _ _ x => by
  obtain ⟨_, _, _, _, _, _, _, _, _, _, _, _, _, _, _, _, w⟩ := x
  exact w.elim
section
variable {X : Cx} {pos : Pos}
theorem pmk_none {C : Addr} {bmB : List Value} {B newId initId : String} {x : Str} {p : Pos} (F : ExcBaseFacts B newId initId bmB) (q : PySem.W.excIn X.K C bmB newId = true) (gC : X.mg x = some (.ref C)) (kC : PySem.W.keepIn X.K (.ref C) = true)
    (r : Raises X (.ref C)) (hg : Gl X x) (hdb : (x == ("__debug__" : Str)) = false) : L2N.PMk X (.Call (.Name x p) [] [] pos) (fun _ H Q => Q (.ref C) none H) := by
  intro pins s σ H Q I h
  refine wpAny_Call_Name_kw (ld_glob I hg gC ?_ hdb)
  refine PySem.W.callWith_K0 I.kIn kC ?_
  obtain ⟨bm, N, nm, qn, bs, hdct, sn, sub, ab, col, dd, k0, k1, k2, k3, k5, mN, hC, hN, hni, T⟩ := exc_obj I.kIn q
  refine wpAny_call_exc_subT F T hC hN hni (fun h' e hm => ?_) (Nat.zero_le _)
  exact L2N.mk_of I hm r h (I.hok.gone hm.new)
theorem pmk_ownA {C : Addr} {bmB : List Value} {B newId initId : String} {x : Str} {p : Pos} {e : Expr} {es : List Expr} {t : TA} (F : ExcBaseFacts B newId initId bmB) (q : PySem.W.excIn X.K C bmB newId = true) (gC : X.mg x = some (.ref C))
    (kC : PySem.W.keepIn X.K (.ref C) = true) (r : Raises X (.ref C)) (hg : Gl X x) (ha : PA X (e :: es) t) (hdb : (x == ("__debug__" : Str)) = false := by decide)
    (he : starEach (e :: es) X.env = (false, eval e X.env) :: starEach es X.env := by rfl) (hpl : (backTo pos (starEach es X.env)).any (·.1) = false := by rfl) :
    L2N.PMk X (.Call (.Name x p) (e :: es) [] pos) (fun σ H Q => t σ H fun vs H1 => vs.length ≤ sizeLine ∧ Q (.ref C) none H1) := by
  intro pins s σ H Q I h
  refine wpAny_Call_Name_kw (ld_glob I hg gC ?_ hdb)
  refine PySem.W.callWith_K (h₀ := X.base) I.ok.mod.kin kC (thn (ha.run pos pins s σ H _ I h) fun us s1 ⟨vs, H1, I1, r1, hz, q1⟩ => ⟨I1.kIn, ?_⟩) he hpl
  show wpAny _ _ (call (.ref C) us) _ _ _
  obtain ⟨bm, N, nm, qn, bs, hdct, sn, sub, ab, col, dd, k0, k1, k2, k3, k5, mN, hC, hN, hni, T⟩ := exc_obj I1.kIn q
  refine wpAny_call_exc_subT F T hC hN hni (fun h' e hm => ?_) (by rw [← r1.length]; exact hz)
  exact L2N.mk_of I1 hm r q1 (I1.hok.gone hm.new)
theorem pmk_oex {CX : CXT} {x : Str} {C fI : Addr} {k : Nat} {fd : FuncData} {ps : List Str} {sp : Sp} {ds : List Value} {dvs : List V} {e : Expr} {es : List Expr} {ta : TA} {p : Pos} (T : OexC X.K C) (iC : PySem.W.findIn X.K (.ref C) "__init__" = some (some (.ref fI))) (tI : PySem.W.typeIn X.K (.ref fI) = some (.type "function"))
    (F1 : FnOk X.prog X.w X.K X.mg X.base CX k fI fd ps sp) (hr : Room (k + 1) X.A) (hb : Binds X.K fd ps ds) (hd : Vals dvs ds) (hx : Passes CX X (fun _ _ _ => False)) (hg : Gl X x) (hm : X.mg x = some (.ref C)) (ha : PA X (e :: es) ta)
    (hdb : (x == ("__debug__" : Str)) = false := by decide) (he : starEach (e :: es) X.env = (false, eval e X.env) :: starEach es X.env := by rfl) (hpl : (backTo pos (starEach es X.env)).any (·.1) = false := by rfl) :
    L2N.PMk X (.Call (.Name x p) (e :: es) [] pos) (tMkO C sp dvs ta) := by
  intro pins s σ H Q I h
  obtain ⟨nm, q, N, bs, bm, sn, sub, ab, col, dd, k0, k1, k2, k3, k5, hC, hbm⟩ := T.cls
  refine wpAny_Call_Name_kw (ld_glob I hg hm ?_ hdb)
  refine PySem.W.callWith_K (h₀ := X.base) I.ok.mod.kin T.kC (thn (ha.run pos pins s σ H _ I h) fun us s1 ⟨vs, H1, I1, r1, hz, q1⟩ => ⟨I1.kIn, ?_⟩) he hpl
  show wpAny _ _ (call (.ref C) us) _ _ _
  obtain ⟨hp, g, dr, tk, os⟩ := s1
  have hsz : hp.objs.size ≤ hp.objs.size + 1 := Nat.le_succ _
  have hn : H1 (hp.objs.size + 1) = none := I1.hok.fresh hsz
  have hq := q1 (hp.objs.size + 1) hn
  have kk : ∀ b o, hp.get? b = some o → ((hp.push (PySem.W.kdv_tup us)).push (PySem.HandSPX.excO C hp.objs.size)).get? b = some o := fun b o e => Heap.get?_push_of_some _ (Heap.get?_push_of_some _ e)
  have hget : ((hp.push (PySem.W.kdv_tup us)).push (PySem.HandSPX.excO C hp.objs.size)).get? (hp.objs.size + 1) = some (PySem.HandSPX.excO C hp.objs.size) := by heap_get
  have I2 : Inv X pins σ (upd H1 (hp.objs.size + 1) (exo (hp.objs.size + 1) C none)) ⟨(hp.push (PySem.W.kdv_tup us)).push (PySem.HandSPX.excO C hp.objs.size), g, dr, tk, os⟩ :=
    I1.laid (t' := tk) (a := hp.objs.size + 1) (o := exo (hp.objs.size + 1) C none) (h' := (hp.push (PySem.W.kdv_tup us)).push (PySem.HandSPX.excO C hp.objs.size)) kk hsz (exo_ok hget)
  have r2 : Vals (V.ref (hp.objs.size + 1) :: (vs ++ dvs)) (Value.ref (hp.objs.size + 1) :: (us ++ ds)) := .cons rfl (r1.append hd)
  have hl : (Value.ref (hp.objs.size + 1) :: us ++ ds).length = ps.length := by
    have e := r2.length
    rw [F1.len _ _ _ _ hq] at e
    exact e.symm
  have hus : us.length ≤ sizeLine := by
    rw [← Paired.length r1, sizeLine_eq]
    omega
  refine wpAny_call (PySem.HandSPX.call_own F.excBase_ValueError (fun Y => PySem.HandSPX.refsVE_contains Y bm hbm) (I1.kIn _ _ hC) (PySem.W.looks_findIn I1.kIn iC) (fun self => PySem.W.bind_fn I1.kIn self tI) hus
    (codeAny_mono (F1.run _ X.stack _ _ ⟨Value.ref (hp.objs.size + 1) :: us, []⟩ (Value.ref (hp.objs.size + 1) :: (us ++ ds)) _ _ (fun _ _ _ => False) (hr.make C us []) (I2.env0.make C us []) (hb _ (Value.ref (hp.objs.size + 1) :: us) I2.kIn hl) r2 hq) fun r s' hq' => ?_))
  cases r with
  | error er => exact hx pins σ _ _ er s' I2 hq'
  | ok fl =>
    cases fl with
    | ret u =>
      obtain ⟨v, H2, os2, bare2, un2, hok2, rv, ev, d, fs, ea, ed, hd1, q2⟩ := hq'
      subst ev
      obtain ⟨h2, g2, d2, t2, os'⟩ := s'
      obtain ⟨t0, G, J, kG, ge, hoe, na⟩ := mk_end0 (d2 := d2) (t2 := t2) I1 hsz kk un2 hok2 os2 bare2 ea ed hd1
      refine ⟨rv, ⟨hp.objs.size + 1, _, _, ⟨G, g2, d2, t2, os'⟩, _, .ref C, some d, rfl, J, kG, ge, hoe, ⟨rfl, rfl, fun vs hv => ?_⟩, rfl, rfl, na, rfl, bare2, raises_own T.exC T.tyC, q2⟩⟩
      cases hv
      rfl
    | next => exact False.elim hq'
    | brk => exact False.elim hq'
    | cont => exact False.elim hq'
end
noncomputable abbrev Hd := Value × Option Nat × (Addr → Value → Option Addr → TS)
noncomputable def wManyN (K : PySem.W.Frag) (Wout : WX) (D : Ends) : List Hd → WX
  | [] => Wout
  | (c, none, ts) :: r => fun cls d σ H => ∃ b, PySem.W.exmOne K cls c = some b ∧ (b = true → ∀ a, H a = none → ts a cls d D σ H) ∧ (b = false → wManyN K Wout D r cls d σ H)
  | (c, some i, ts) :: r => fun cls d σ H => ∃ b, PySem.W.exmOne K cls c = some b ∧ (b = true → ∀ a, H a = none → ts a cls d { nx := fun σ' H' => D.nx (σ'.set i none) H', rt := D.rt, bk := fun σ' H' => D.bk (σ'.set i none) H', ct := fun σ' H' => D.ct (σ'.set i none) H' } (σ.set i (some (.ref a))) H) ∧
      (b = false → wManyN K Wout D r cls d σ H)
inductive HdsN (X : Cx) : List ExceptHandler → List Hd → Prop
  | nil : HdsN X [] []
  | cons {x : Str} {c : Value} {ts : Addr → Value → Option Addr → TS} {b₀ : Stmt} {suite : List Stmt} {np pos' : Pos} {hds : List ExceptHandler} {l : List Hd} (hc : Names X x c)
      (hsu : ∀ (a : Addr) (oe : Obj) (cls : Value) (d : Option Addr) (pn : List (Addr × Obj)), L2N.Zn cls d oe → (∃ vs, oe.data = .fields vs) → PSs (X.suite a ((a, oe) :: pn)) (b₀ :: suite) (ts a cls d)) (r : HdsN X hds l) :
      HdsN X (.ExceptHandler (some (.Name x np)) none (b₀ :: suite) pos' :: hds) ((c, none, ts) :: l)
  | consN {x n : Str} {i : Nat} {c : Value} {ts : Addr → Value → Option Addr → TS} {b₀ : Stmt} {suite : List Stmt} {np pos' : Pos} {hds : List ExceptHandler} {l : List Hd} (hc : Names X x c) (hi : X.N[i]? = some n) (hln : X.env.kindOf n = some .local)
      (hsu : ∀ (a : Addr) (oe : Obj) (cls : Value) (d : Option Addr) (pn : List (Addr × Obj)), L2N.Zn cls d oe → (∃ vs, oe.data = .fields vs) → PSs (X.suite a ((a, oe) :: pn)) (b₀ :: suite) (ts a cls d)) (r : HdsN X hds l) :
      HdsN X (.ExceptHandler (some (.Name x np)) (some n) (b₀ :: suite) pos' :: hds) ((c, some i, ts) :: l)
section
variable {X : Cx} {body : List Stmt} {h₀ : ExceptHandler} {hds : List ExceptHandler} {l : List Hd} {pos : Pos} {tb : WX → TS} {Wout : WX}
theorem ps_try_gen {orelse : List Stmt} {u : TS} (ho : PSs X orelse u) (hs : X.stack = X.env :: X.outer) (hf : X.env.frame = some X.env.locals) (hN : X.N.Nodup) (tk : L2N.Takes X Wout)
    (hb : ∀ (W : WX) (pn : List (Addr × Obj)) (xe : Value → Shared → Prop), L2N.Takes (X.tr pn xe) W → PassesOwn (model X.prog X.w) X.A X.env xe → PSs (X.tr pn xe) body (tb W))
    (hh : HdsN X (h₀ :: hds) l) : PS X (.Try body (h₀ :: hds) orelse [] pos) (fun D σ H => tb (wManyN X.K Wout D l) { D with nx := u D } σ H) := by
  refine ⟨fun pins s σ H D I h => ?_⟩
  have ok := I.ok
  have hfr : X.A.frames = some (X.env :: X.outer) := by rw [ok.frames, hs]
  refine wpAny_Try_except ?_
  refine wpAny_mono ((hb (wManyN X.K Wout D l) (X.pn ++ pins) (fun e s₁ => wpAny (model X.prog X.w) X.A (noteFrame e X.env) (fun _ s₂ => wpAny (model X.prog X.w) X.A (setFlight e none) (fun _ s₃ =>
    wpAny (model X.prog X.w) X.A (handleBy e X.env (h₀ :: hds)) (SP X pins D) X.xe s₃) X.xe s₂) X.xe s₁) (fun u s' xx => ?_) PassesOwn.looking).run [] s σ H { D with nx := u D } (I.toTry _) h) (fun f s1 hsp => ?_) (fun e s1 he => he)
  · -- the catch
    obtain ⟨a, B, sI, pins', σ', H', cls, d, rfl, J', nb, up, sky, na, os, ag, w⟩ := xx
    have J : Inv X pins σ' H' sI := J'.ofTry ok
    have sky' : Sky B (X.env :: X.outer) a (L2N.Zn cls d) X.env.locals s'.heap := by rw [← hs]; exact sky
    show wpAny (model X.prog X.w) X.A (noteFrame (.ref a) X.env) _ _ _
    refine L2N.Sky.land L2N.Zn.steady hfr hf sky' fun h3 fl3 up3 => ?_
    have J3 : Inv X pins σ' H' { s' with heap := h3 } := J.landed nb fl3.1 (up.trans up3) os ag
    obtain ⟨oe3, vs3, he3, hz3, hd3⟩ := fl3.there
    have notFr : ∀ {h : Heap} {o : Obj} {vs : Array Value}, h.FunFrames B (X.env :: X.outer) → h.get? a = some o → o.data = .fields vs → a ∉ frs (X.env :: X.outer) := fun {h o vs} ff e dd hm => by
      obtain ⟨_, o', e', hnf⟩ := ff.mem hm
      rw [e] at e'; cases e'
      exact hnf _ dd
    have nfr := notFr fl3.2.2.1 he3 hd3
    have nL : a ≠ X.env.locals := fun z => nfr (List.mem_filterMap.mpr ⟨X.env, List.mem_cons_self, by rw [hf, z]⟩)
    have nF : a ∉ X.fs := fun hm => by
      obtain ⟨e, he, q⟩ := List.mem_filterMap.mp hm
      exact nfr (List.mem_filterMap.mpr ⟨e, List.mem_cons_of_mem _ he, q⟩)
    have S3 := J3.suite he3 hd3 na nL nF
    have LT : PySem.W.Looks (model X.prog X.w) h3 (typeOf (.ref a)) cls := fun A Q E s k q => wpAny_typeOf_ref (k _ _ he3) (by rw [hz3.1]; exact q)
    have test : ∀ {x : Str} {c : Value} {np : Pos}, Names X x c → ∀ {Q : Value → Shared → Prop} {E : Value → Shared → Prop}, Q c { s' with heap := h3 } → wpAny (model X.prog X.w) (X.A.mark (some (.ref a))) (eval (.Name x np) X.env) Q E { s' with heap := h3 } := fun {x c np} hc {Q E} q => by
      obtain ⟨hg, hdbg, hm | ⟨hm, hv, hnn⟩⟩ := hc
      · exact ld_glob (X := X.suite a ((a, oe3) :: (X.pn ++ pins))) S3 hg hm q hdbg
      · exact ld_blt (X := X.suite a ((a, oe3) :: (X.pn ++ pins))) S3 hg hm hv q hnn hdbg
    have go : ∀ {hds' : List ExceptHandler} {l' : List Hd}, HdsN X hds' l' → wManyN X.K Wout D l' cls d σ' H' →
        wpAny (model X.prog X.w) X.A (handleBy (.ref a) X.env hds') (SP X pins D) X.xe { s' with heap := h3 } := by
      intro hds' l' hk
      induction hk with
      | nil =>
        intro w
        refine wpAny_handleBy_nil ?_
        obtain ⟨k1, k2, k3, oe, vs, T, oT, ts', he, hz, hd, h1, hr⟩ := id fl3
        unfold PySem.passOn
        refine wpAny_bind (wpAny_field he hd h1 ?_)
        rw [if_neg (show ¬ ((Value.ref T == Value.none) = true) from by simp)]
        have fin : wpAny (model X.prog X.w) X.A (setFlight (.ref a) X.env.frame) (fun _ s4 => wpAny (model X.prog X.w) X.A (throw (.ref a) : Sem Flow) (SP X pins D) X.xe s4) X.xe { s' with heap := h3 } := by
          rw [hf]
          refine HandSPX.setFlight_upZ fl3 fun h4 hh4 up4 => wpAny_throw (tk _ _ ?_)
          exact ⟨a, B, sI, pins, σ', H', cls, d, rfl, J, nb, (up.trans up3).trans up4, .inr (.inr (by rw [hs]; exact hh4)), na, os, ag, w⟩
        first
          | exact wpAny_bind (wpAny_pure (wpAny_bind fin))
          | exact wpAny_bind fin
      | @cons x c ts b₀ suite np pos' hds2 l2 hc hsu r ih =>
        intro w
        obtain ⟨b, hb1, hyes, hno⟩ := w
        have LM := PySem.W.exm_one (M := model X.prog X.w) (J3.kIn) LT hb1
        refine wpAny_handleBy_cons (codeAny_handlers_test ?_) (by intro q; cases q)
        refine test hc (LM.here ?_)
        cases b with
        | true =>
          refine codeAny_handlers_suite ?_
          refine HandSPX.lands_againZ fl3 fun h4 fl4 up4 => ?_
          have J4 : Inv X pins σ' H' { s' with heap := h4 } := J.landed nb fl4.1 ((up.trans up3).trans up4) os ag
          obtain ⟨oe4, vs4, he4, hz4, hd4⟩ := fl4.there
          have S4 := J4.suite he4 hd4 na nL nF
          refine wpAny_mono ((hsu a oe4 cls d (X.pn ++ pins) hz4 ⟨_, hd4⟩).run [] _ _ H' _ S4 (hyes rfl a na)) (fun f s6 hsp => ?_) (fun _ _ z => False.elim z)
          cases f with
          | next =>
            obtain ⟨σ6, H6, S6, q6⟩ := hsp
            exact ⟨_, _, S6.unsuite ok, q6⟩
          | brk =>
            obtain ⟨σ6, H6, S6, q6⟩ := hsp
            exact ⟨_, _, S6.unsuite ok, q6⟩
          | cont =>
            obtain ⟨σ6, H6, S6, q6⟩ := hsp
            exact ⟨_, _, S6.unsuite ok, q6⟩
          | ret u =>
            obtain ⟨v6, σ6, H6, S6, r6, q6⟩ := hsp
            exact ⟨_, _, _, S6.unsuite ok, r6, q6⟩
        | false =>
          show wpAny _ X.A (handleBy (.ref a) X.env hds2) _ _ _
          exact ih (hno rfl)
      | @consN x n i c ts b₀ suite np pos' hds2 l2 hc hi hln hsu r ih =>
        intro w
        obtain ⟨b, hb1, hyes, hno⟩ := w
        have hloc : Loc X.env.scope n := .inl hln
        have LM := PySem.W.exm_one (M := model X.prog X.w) (J3.kIn) LT hb1
        refine wpAny_handleBy_cons (codeAny_handlers_test ?_) (by intro q; cases q)
        refine test hc (LM.here ?_)
        cases b with
        | true =>
          refine codeAny_handlers_suite_as ?_
          refine HandSPX.lands_againZ fl3 fun h4 fl4 up4 => ?_
          have J4 : Inv X pins σ' H' { s' with heap := h4 } := J.landed nb fl4.1 ((up.trans up3).trans up4) os ag
          obtain ⟨oe4, vs4, he4, hz4, hd4⟩ := fl4.there
          have S4 := J4.suite he4 hd4 na nL nF
          refine store_ok (X := X.suite a ((a, oe4) :: (X.pn ++ pins))) (v := .ref a) S4 hN hi hloc rfl (fun s5 S5 => ?_) (.inr hln)
          refine wpAny_mono ((hsu a oe4 cls d (X.pn ++ pins) hz4 ⟨_, hd4⟩).run [] s5 _ H' _ S5 (hyes rfl a na)) (fun f s6 hsp => ?_) (fun _ _ z => False.elim z)
          have end_ : ∀ {σ6 : L2.St} {H6 : Hp} {Q : Shared → Prop}, Inv (X.suite a ((a, oe4) :: (X.pn ++ pins))) [] σ6 H6 s6 → (∀ s7, Inv X pins (σ6.set i none) H6 s7 → Q s7) →
              wpAny (model X.prog X.w) X.A (do bindName X.env n .none; unbindBehindTheSuite X.env n pos') (fun _ s7 => Q s7) X.xe s6 := fun {σ6 H6 Q} S6 hq => gone_ok (S6.unsuite ok) hN hi hln hq
          cases f with
          | next =>
            obtain ⟨σ6, H6, S6, q6⟩ := hsp
            exact end_ S6 fun s7 J7 => ⟨_, _, J7, q6⟩
          | brk =>
            obtain ⟨σ6, H6, S6, q6⟩ := hsp
            exact end_ S6 fun s7 J7 => ⟨_, _, J7, q6⟩
          | cont =>
            obtain ⟨σ6, H6, S6, q6⟩ := hsp
            exact end_ S6 fun s7 J7 => ⟨_, _, J7, q6⟩
          | ret u =>
            obtain ⟨v6, σ6, H6, S6, r6, q6⟩ := hsp
            exact end_ S6 fun s7 J7 => ⟨_, _, _, J7, r6, q6⟩
        | false =>
          show wpAny _ X.A (handleBy (.ref a) X.env hds2) _ _ _
          exact ih (hno rfl)
    exact go hh w
  · cases f with
    | next =>
      obtain ⟨σ', H', J', q⟩ := hsp
      exact ho.run pins s1 σ' H' D (J'.ofTry ok) q
    | brk =>
      obtain ⟨σ', H', J', q⟩ := hsp
      exact ⟨σ', H', J'.ofTry ok, q⟩
    | cont =>
      obtain ⟨σ', H', J', q⟩ := hsp
      exact ⟨σ', H', J'.ofTry ok, q⟩
    | ret u =>
      obtain ⟨v, σ', H', J', r, q⟩ := hsp
      exact ⟨v, σ', H', J'.ofTry ok, r, q⟩
end
end L4T

namespace L4N
open PySem PySem.SeqAt
open AutoSeq1 (wpAny_loadPart')
open MeetsSeq MeetsSeq2 MeetsSeq3 SeqRoads2
section
variable {prog : Program} {w : World}
theorem ne_loopIn (l b : Addr) (items items2 : Array Value) (n n2 : Nat) (dd dd2 : Option Addr) (sl sl2 : Array (Option Value)) (hsz : items.size = items2.size) (e : Nat → Bool) (k : Nat) :
    ∀ i : Nat, items.size - i = k → MeetsIn prog w (Builtin.«list.__eq__.loop» ⟨[.ref l, .ref b, rawInt i, rawInt 3], []⟩)
      (fun A R s => s.heap.get? l = some { cls := .type "list", dict := dd, data := .seq items n, slots := sl } ∧ s.heap.get? b = some { cls := .type "list", dict := dd2, data := .seq items2 n2, slots := sl2 } ∧
        (∀ j (h1 : j < items.size) (h2 : j < items2.size), EqIn prog w A.in1 s items[j] items2[j] (e j)) ∧
        R (.ok (.ret (.bool (!((List.range items.size).drop i).all e)))) s) := by
  induction k with
  | zero =>
    intro i hk A R s h
    obtain ⟨hp, g, d, tk, os⟩ := s; obtain ⟨hl, hb, he, h⟩ := h
    wp_walk using wpAny_loadPart' hl, wpAny_loadPart' hb
    have hi1 : items[((i : Nat) : Int).toNat]? = none := by simp; omega
    have hi2 : items2[((i : Nat) : Int).toNat]? = none := by simp; omega
    have hd : (List.range items.size).drop i = [] := by simp; omega
    rw [hd] at h
    rw [hi1, hi2]
    wp_walk using wpAny_loadPart' hl, wpAny_loadPart' hb
    show R (.ok (.ret (.bool (items.size != items2.size)))) _
    rw [hsz]
    simpa using h
  | succ k ih =>
    intro i hk A R s h
    obtain ⟨hp, g, d, tk, os⟩ := s; obtain ⟨hl, hb, he, h⟩ := h
    wp_walk using wpAny_loadPart' hl, wpAny_loadPart' hb
    have hlt : i < items.size := by omega
    have hlt2 : i < items2.size := by omega
    have hi1 : items[((i : Nat) : Int).toNat]? = some items[i] := by simp [hlt]
    have hi2 : items2[((i : Nat) : Int).toNat]? = some items2[i] := by simp [hlt2]
    have hd : (List.range items.size).drop i = i :: (List.range items.size).drop (i + 1) := by simp [List.drop_eq_getElem_cons, hlt]
    have hc : ((i : Int) + 1) = ((i + 1 : Nat) : Int) := by push_cast; rfl
    rw [hd, List.all_cons] at h
    rw [hi1, hi2]
    refine wpAny_bind (he i hlt hlt2 _ _ ?_)
    cases hb' : e i with
    | true =>
      rw [hb'] at h
      wp_walk
      rw [hc]
      exact ⟨plainId_quiet plain_eq_loop _, codeAny_builtin entry_eq_loop (by
        rw [Around.under_plainId plain_eq_loop _]
        exact ih (i + 1) (by omega) A R _ ⟨hl, hb, he, by simpa using h⟩)⟩
    | false =>
      rw [hb'] at h
      wp_walk using wpAny_loadPart' hl, wpAny_loadPart' hb
      rw [hi1, hi2]
      wp_walk
      simpa using h

theorem list_neIn (l b : Addr) (items items2 : Array Value) (n n2 : Nat) (dd dd2 : Option Addr) (sl sl2 : Array (Option Value)) (hsz : items.size = items2.size) (e : Nat → Bool) :
    MeetsIn prog w (Builtin.«list.__ne__» ⟨[.ref l, .ref b], []⟩)
      (fun A R s => s.heap.get? l = some { cls := .type "list", dict := dd, data := .seq items n, slots := sl } ∧ s.heap.get? b = some { cls := .type "list", dict := dd2, data := .seq items2 n2, slots := sl2 } ∧
        (∀ j (h1 : j < items.size) (h2 : j < items2.size), EqIn prog w A.in1 s items[j] items2[j] (e j)) ∧
        R (.ok (.ret (.bool (!(List.range items.size).all e)))) s) := by
  intro A R s h
  obtain ⟨hp, g, d, tk, os⟩ := s; obtain ⟨hl, hb, he, h⟩ := h
  have f3 := AutoSeq1.sub_list_list
  have hne : ¬ (items.size != items2.size) = true := by simp [hsz]
  wp_walk using wpAny_loadPart' hl, wpAny_loadPart' hb
  exact ⟨plainId_quiet plain_eq_loop _, codeAny_builtin entry_eq_loop (by
    rw [Around.under_plainId plain_eq_loop _]
    exact ne_loopIn l b items items2 n n2 dd dd2 sl sl2 hsz e _ 0 rfl A R _ ⟨hl, hb, he, by simpa using h⟩)⟩

end
section
variable {prog : Program} {w : World} {A : Around} {s : Shared}
theorem rcNeIn_lists {E : Value → Shared → Prop} {l b : Addr} {items items2 : Array Value} {e : Nat → Bool} {Q : Value → Shared → Prop} (hl : s.heap.IsList l items) (hb : s.heap.IsList b items2) (hsz : items.size = items2.size) (hu : A.units < cLine)
    (he : ∀ j (h1 : j < items.size) (h2 : j < items2.size), EqIn prog w A.in1 s items[j] items2[j] (e j)) (h : Q (.bool (!(List.range items.size).all e)) s) : wpAny (model prog w) A (richCompare .NotEq (.ref l) (.ref b)) Q E s := by
  obtain ⟨⟨cls, dd, data, sl⟩, ho, hc, n, hd⟩ := id hl
  obtain ⟨⟨cls2, dd2, data2, sl2⟩, ho2, hc2, n2, hd2⟩ := id hb
  simp only at hc hd hc2 hd2
  subst hc hd hc2 hd2
  exact wpAny_richCompare_same_room (T := "list") (op := .NotEq) ⟨_, ho, rfl⟩ ⟨_, ho2, rfl⟩ F.slot_list_ne (call_meetsIn F.slot_list_ne ⟨_, ho, rfl⟩ F.entry_list_ne (F.args_list_ne_2 _ _) (list_neIn l b items items2 n n2 dd dd2 sl sl2 hsz e)
    ⟨ho, ho2, he, show Value.bool (!(List.range items.size).all e) ≠ Value.notImplemented ∧ Q (.bool (!(List.range items.size).all e)) s from ⟨(fun x => nomatch x), h⟩⟩) hu
end
end L4N

namespace L4N
open PySem PySem.SeqAt
open AutoSeq1 (wpAny_loadPart')
open MeetsSeq
theorem sub_dict_str : isSubtype (.type "dict") (.type "str") = pure false := by rw [isSubtype_type]; kernel_rfl
section
variable {A : Around} {s : Shared}
theorem str_eq_declines_dict (b : Str) (u : Tok) (l : Addr) (o : Obj) (es : Array DictEntry) (ep : Nat) (hd : o.data = .dict es ep) :
    Meets (Builtin.«str.__eq__» ⟨[.str b u, .ref l], []⟩) (fun _ R s => s.heap.get? l = some o ∧ R (.ok (.ret .notImplemented)) s) :=
  .of_wp fun prog w A R s h => by
    obtain ⟨cls, dd, data, sl⟩ := o
    simp only at hd
    subst hd
    obtain ⟨hp, g, d, tk, os⟩ := s; obtain ⟨hl, h⟩ := h; wp_walk using wpAny_loadPart' hl, wpAny_load hl; exact ⟨_, rfl, h⟩
theorem RcAt_str_dict {l : Addr} {o : Obj} {es : Array DictEntry} {ep : Nat} (b : Str) (u : Tok) (ho : s.heap.get? l = some o) (hx : o.ExactDict) (hd : o.data = .dict es ep) (ty : s.TypeIs (.ref l) "dict") (hu : A.units < cLine) : RcAt A s (.str b u) (.ref l) false := fun prog w E Q h => by
  refine rc_eq_decline_or (k := false) (typeIs_str s b u) ty (by decide) sub_dict_str F.slot_str_eq PySem.F.slot_dict_eq_refl
    (fun _ hq => call_meets F.slot_str_eq (typeIs_str s b u) F.entry_str_eq (F.args_str_eq_2 _ _) (str_eq_declines_dict b u l o es ep hd) ⟨ho, hq⟩)
    (fun Q' hq => wpAny_call_entry PySem.F.slot_dict_eq_refl ty PySem.F.entry_dict_eq ?_ (PySem.F.args_dict_eq_2 _ _))
    (fun _ hq => wpAny_of_eq (rfl : isSame (.str b u) (.ref l) = pure false) hq) (.inr hu) h
  show wpAny _ _ (Builtin.Dict.dictSlotArgs "__eq__" ⟨[.ref l, .str b u], []⟩ >>= _) _ _ s
  refine wpAny_bind ?_
  unfold Builtin.Dict.dictSlotArgs
  refine wpAny_bind (wpAny_notOrdered_dict ty ?_)
  show wpAny _ _ (pure (Value.ref l, Value.str b u)) _ _ s
  refine wpAny_pure ?_
  refine wpAny_bind (wpAny_isInstance (T := "str") (typeIs_str s b u) PySem.F.sub_str_dict ?_)
  simp only [Bool.not_false, if_true]
  exact wpAny_bind (wpAny_rule (wpAny_pure ⟨_, rfl, hq⟩))
theorem EqAt_str_dict {l : Addr} {o : Obj} {es : Array DictEntry} {ep : Nat} (b : Str) (u : Tok) (ho : s.heap.get? l = some o) (hx : o.ExactDict) (hd : o.data = .dict es ep) (ty : s.TypeIs (.ref l) "dict") (hu : A.units < cLine) : EqAt A s (.str b u) (.ref l) false := fun prog w E Q h => by
  unfold eqBool
  refine wpAny_holding ?_
  refine wpAny_ite_split (fun hab => absurd (eq_of_beq hab) nofun) (fun _ => ?_)
  exact wpAny_bind (RcAt_str_dict b u ho hx hd ty hu prog w E _ (wpAny_truthy_bool h))
end
end L4N

namespace L4
open PySem PySem.Spec PyProof.Rows L2

inductive D where
  | non | bl (b : Bool) | int (i : Int) | str (x : Str) | ref (a : Addr) | ty (n : String) | fn (k : Nat) | cls (k : Nat)
  | tup (xs : List D) | lst (xs : List D) | scr (xs : List D) | dct (ks : List Key) (vs : List D) | dc2 (ks : List (Int × Str)) (vs : List D) | ins (k : Nat) (ns : List Str) (vs : List D) 
  deriving Inhabited

inductive O where
  | lst (xs : List D) | dct (kvs : List (Key × D)) | dc2 (kvs : List ((Int × Str) × D)) | ins (k : Nat) (fs : List (Str × D))
noncomputable abbrev Sto := Addr → Option O
noncomputable def Sto.set (S : Sto) (p : Addr) (o : O) : Sto := fun q => if q = p then some o else S q
noncomputable def Sto.del (S : Sto) (p : Addr) : Sto := fun q => if q = p then none else S q

noncomputable def Sto.le (S S' : Sto) : Prop := ∀ p o, S p = some o → S' p = some o
section
variable {S S1 S2 : Sto} {p q : Addr} {o u : O}
theorem Sto.same : S.set p o p = some o := by unfold Sto.set; rw [if_pos rfl]
theorem Sto.ne (h : q ≠ p) : S.set p o q = S q := by unfold Sto.set; rw [if_neg h]
theorem Sto.gone : S.del p p = none := by unfold Sto.del; rw [if_pos rfl]
theorem Sto.del_ne (h : q ≠ p) : S.del p q = S q := by unfold Sto.del; rw [if_neg h]
theorem Sto.kept (h : S q = some u) (n : S p = none) : S.set p o q = some u := by
  rw [Sto.ne]
  · exact h
  · intro e; subst e; rw [h] at n; cases n
theorem Sto.set_set : (S.set p o).set p u = S.set p u := by
  funext q
  unfold Sto.set
  split <;> rfl
theorem Sto.del_set (n : S p = none) : (S.set p o).del p = S := by
  funext q
  unfold Sto.set Sto.del
  split
  · rename_i e; rw [e, n]
  · rename_i e; exact if_neg e
theorem Sto.le.refl : Sto.le S S := fun _ _ h => h
theorem Sto.le.trans (h : Sto.le S S1) (k : Sto.le S1 S2) : Sto.le S S2 := fun p o e => k p o (h p o e)
theorem Sto.le.set (n : S p = none) : Sto.le S (S.set p o) := fun q u e => Sto.kept e n
theorem Sto.le.put (h : Sto.le S S1) : Sto.le (S.set p o) (S1.set p o) := fun q u e => by
  unfold Sto.set at e ⊢
  split
  · rename_i z; rw [if_pos z] at e; exact e
  · rename_i z; rw [if_neg z] at e; exact h q u e
theorem Sto.le.new (h : Sto.le S S1) (n : S p = none) : Sto.le S (S1.set p o) := fun q u e => by
  rw [Sto.ne]
  · exact h q u e
  · intro z; subst z; rw [n] at e; cases e
theorem Sto.le.none (h : Sto.le S S1) (n : S1 p = none) : S p = none := by
  cases e : S p with
  | none => rfl
  | some o => have := h p o e; rw [n] at this; cases this
theorem Sto.fresh (n : S q = none) (h : S p = some o) : p ≠ q := fun e => by subst e; rw [n] at h; cases h
end

structure Exc where
  cls : D
  fs : List (Str × D)

structure Gd where
  K : PySem.W.Frag
  fa : Nat → Addr
  ca : Nat → Addr

structure Gx extends Gd where
  px : Addr → Obj → Prop := fun _ _ => False
  xi : Option (Nat × Exc) := none
noncomputable instance : Coe Gx Gd := ⟨Gx.toGd⟩

noncomputable def Gx.fre (G : Gx) (i : Nat) : Prop := ∀ x, G.xi ≠ some (i, x)

structure Wd where
  F : Addr → Prop
  S : Sto
  H : Hp
noncomputable def insF (F : Addr → Prop) (p : Addr) : Addr → Prop := fun a => a = p ∨ F a
theorem insF.same {F : Addr → Prop} {p : Addr} : insF F p p := .inl rfl
noncomputable def sok (x : Str) : Prop := PyData.strOk x = true

noncomputable def KList (K : PySem.W.Frag) (a : Addr) (xs : List V) : Prop := ∃ (o : Obj) (its : Array Value) (n : Nat), K.lookup a = some o ∧ o.cls = .type "list" ∧ o.dict = none ∧ o.data = .seq its n ∧ its.size ≤ sizeLine ∧ Vals xs its.toList
noncomputable def KTup (K : PySem.W.Frag) (a : Addr) (xs : List V) : Prop := ∃ (o : Obj) (its : Array Value) (n : Nat), K.lookup a = some o ∧ o.cls = .type "tuple" ∧ o.dict = none ∧ o.data = .seq its n ∧ its.size ≤ sizeLine ∧ Vals xs its.toList

noncomputable def TpV (G : Gd) (m : Wd) (a : Addr) (xs : List V) : Prop := m.H a = some (.tup xs) ∨ KTup G.K a xs

noncomputable def LsV (G : Gd) (m : Wd) (a : Addr) (xs : List V) : Prop := (m.F a ∧ Rd m.H a (.lst xs)) ∨ KList G.K a xs
theorem TpV.sq {G : Gd} {m : Wd} {a : Addr} {xs : List V} (h : TpV G m a xs) : SqT G.K m.H a xs := by
  rcases h with h | ⟨o, its, n, h1, h2, _, h3⟩
  · exact .inl (.inl h)
  · exact .inr ⟨o, its, n, h1, h2, h3⟩
theorem LsV.sq {G : Gd} {m : Wd} {a : Addr} {xs : List V} (h : LsV G m a xs) : SqL G.K m.H a xs := by
  rcases h with h | h
  · exact .inl h.2
  · exact .inr h

noncomputable def keyish : List D → Bool
  | [.int _, .str _] => true
  | _ => false
noncomputable def key2 (k : Int × Str) : List Key := [.inl k.1, .inr k.2]

noncomputable def kok (ks : List Key) : Prop := ∀ x, Sum.inr x ∈ ks → sok x
noncomputable def kok2 (ks : List (Int × Str)) : Prop := ∀ k ∈ ks, sok k.2
mutual
noncomputable def Rp (G : Gd) (m : Wd) : D → V → Prop
  | .non, v => v = .non
  | .bl b, v => v = .bl b
  | .int i, v => v = .int i
  | .str x, v => v = .str x ∧ sok x
  | .ref a, v => v = .ref a
  | .ty n, v => v = .ty n
  | .fn k, v => v = .ref (G.fa k)
  | .cls k, v => v = .ref (G.ca k)
  | .tup ds, v => ∃ a xs, v = .ref a ∧ TpV G m a xs ∧ (keyish ds = true → m.H a = some (.tup xs)) ∧ Rps G m ds xs
  | .lst ds, v => ∃ a xs, v = .ref a ∧ (m.F a ∧ m.H a = some (.lst xs)) ∧ Rps G m ds xs
  | .scr ds, v => ∃ a xs, v = .ref a ∧ LsV G m a xs ∧ Rps G m ds xs
  | .dct ks ds, v => ∃ a o kvs, v = .ref a ∧ m.F a ∧ m.H a = some (.frz o (.dK kvs)) ∧ kvs.map (·.1) = ks ∧ kok ks ∧ Rps G m ds (kvs.map (·.2))
  | .dc2 ks ds, v => ∃ a o kvs, v = .ref a ∧ m.F a ∧ m.H a = some (.frz o (.dT kvs)) ∧ kvs.map (·.1) = ks.map key2 ∧ kok2 ks ∧ Rps G m ds (kvs.map (·.2))
  | .ins k ns ds, v => ∃ a dx fs, v = .ref a ∧ m.F a ∧ m.H a = some (.ins (G.ca k) dx fs) ∧ fs.map (·.1) = ns ∧ Rps G m ds (fs.map (·.2))
noncomputable def Rps (G : Gd) (m : Wd) : List D → List V → Prop
  | [], vs => vs = []
  | d :: ds, vs => ∃ v r, vs = v :: r ∧ Rp G m d v ∧ Rps G m ds r
end
structure RK (m m' : Wd) : Prop where
  fz : ∀ a o, m.F a → m.H a = some o → m'.F a ∧ m'.H a = some o
  tp : ∀ a xs, m.H a = some (.tup xs) → m'.H a = some (.tup xs)

structure TK (m m' : Wd) : Prop extends RK m m' where
  hid : ∀ a o, m.H a = some o → m.S a = none → m'.H a = some o ∧ m'.S a = none ∧ (m'.F a → m.F a)
theorem RK.refl (m : Wd) : RK m m := ⟨fun _ _ f h => ⟨f, h⟩, fun _ _ h => h⟩
theorem RK.trans {m m1 m2 : Wd} (a : RK m m1) (b : RK m1 m2) : RK m m2 := ⟨fun c o f h => by obtain ⟨f1, h1⟩ := a.fz c o f h; exact b.fz c o f1 h1, fun c xs h => b.tp c xs (a.tp c xs h)⟩
theorem TK.refl (m : Wd) : TK m m := ⟨.refl m, fun _ _ h n => ⟨h, n, id⟩⟩
theorem TK.trans {m m1 m2 : Wd} (a : TK m m1) (b : TK m1 m2) : TK m m2 := ⟨a.toRK.trans b.toRK, fun c o h n => by
  obtain ⟨h1, n1, f1⟩ := a.hid c o h n
  obtain ⟨h2, n2, f2⟩ := b.hid c o h1 n1
  exact ⟨h2, n2, fun f => f1 (f2 f)⟩⟩
theorem RK.t {G : Gd} {m m' : Wd} (k : RK m m') {a : Addr} {xs : List V} (h : TpV G m a xs) : TpV G m' a xs := by
  rcases h with h | h
  · exact .inl (k.tp a xs h)
  · exact .inr h
theorem RK.f {m m' : Wd} (k : RK m m') {a : Addr} {u : HO} (h : m.F a ∧ Rd m.H a u) : m'.F a ∧ Rd m'.H a u := by
  rcases h with ⟨f, h | ⟨o, h⟩⟩
  · obtain ⟨f', h'⟩ := k.fz a _ f h
    exact ⟨f', .inl h'⟩
  · obtain ⟨f', h'⟩ := k.fz a _ f h
    exact ⟨f', .inr ⟨o, h'⟩⟩
theorem RK.l {G : Gd} {m m' : Wd} (k : RK m m') {a : Addr} {xs : List V} (h : LsV G m a xs) : LsV G m' a xs := by
  rcases h with ⟨f, h | ⟨o, h⟩⟩ | h
  · obtain ⟨f', h'⟩ := k.fz a _ f h
    exact .inl ⟨f', .inl h'⟩
  · obtain ⟨f', h'⟩ := k.fz a _ f h
    exact .inl ⟨f', .inr ⟨o, h'⟩⟩
  · exact .inr h

mutual
theorem Rp.tk {G : Gd} {m m' : Wd} (k : RK m m') : ∀ (d : D) (v : V), Rp G m d v → Rp G m' d v
  | .non, _, h => by unfold Rp at h ⊢; exact h
  | .bl b, _, h => by unfold Rp at h ⊢; exact h
  | .int i, _, h => by unfold Rp at h ⊢; exact h
  | .str x, _, h => by unfold Rp at h ⊢; exact h
  | .ref a, _, h => by unfold Rp at h ⊢; exact h
  | .ty n, _, h => by unfold Rp at h ⊢; exact h
  | .fn n, _, h => by unfold Rp at h ⊢; exact h
  | .cls n, _, h => by unfold Rp at h ⊢; exact h
  | .tup ds, v, h => by
    unfold Rp at h ⊢
    obtain ⟨a, xs, e, q, z, r⟩ := h
    exact ⟨a, xs, e, k.t q, fun y => k.tp a xs (z y), Rps.tk k ds xs r⟩
  | .lst ds, v, h => by
    unfold Rp at h ⊢
    obtain ⟨a, xs, e, q, r⟩ := h
    exact ⟨a, xs, e, k.fz a _ q.1 q.2, Rps.tk k ds xs r⟩
  | .scr ds, v, h => by
    unfold Rp at h ⊢
    obtain ⟨a, xs, e, q, r⟩ := h
    exact ⟨a, xs, e, k.l q, Rps.tk k ds xs r⟩
  | .dct ks ds, v, h => by
    unfold Rp at h ⊢
    obtain ⟨a, o, kvs, e, f, q, z, y, r⟩ := h
    obtain ⟨f', q'⟩ := k.fz a _ f q
    exact ⟨a, o, kvs, e, f', q', z, y, Rps.tk k ds _ r⟩
  | .dc2 ks ds, v, h => by
    unfold Rp at h ⊢
    obtain ⟨a, o, kvs, e, f, q, z, y, r⟩ := h
    obtain ⟨f', q'⟩ := k.fz a _ f q
    exact ⟨a, o, kvs, e, f', q', z, y, Rps.tk k ds _ r⟩
  | .ins c ns ds, v, h => by
    unfold Rp at h ⊢
    obtain ⟨a, dx, fs, e, f, q, z, r⟩ := h
    obtain ⟨f', q'⟩ := k.fz a _ f q
    exact ⟨a, dx, fs, e, f', q', z, Rps.tk k ds _ r⟩
theorem Rps.tk {G : Gd} {m m' : Wd} (k : RK m m') : ∀ (ds : List D) (vs : List V), Rps G m ds vs → Rps G m' ds vs
  | [], _, h => by unfold Rps at h ⊢; exact h
  | d :: ds, vs, h => by
    unfold Rps at h ⊢
    obtain ⟨v, r, e, q, t⟩ := h
    exact ⟨v, r, e, Rp.tk k d v q, Rps.tk k ds r t⟩
end
section
variable {G : Gd} {m : Wd}
theorem Rp.non {v : V} : Rp G m .non v ↔ v = .non := by unfold Rp; exact Iff.rfl
theorem Rp.bl {b : Bool} {v : V} : Rp G m (.bl b) v ↔ v = .bl b := by unfold Rp; exact Iff.rfl
theorem Rp.int {i : Int} {v : V} : Rp G m (.int i) v ↔ v = .int i := by unfold Rp; exact Iff.rfl
theorem Rp.str {x : Str} {v : V} : Rp G m (.str x) v ↔ v = .str x ∧ sok x := by unfold Rp; exact Iff.rfl
theorem Rp.ref {a : Addr} {v : V} : Rp G m (.ref a) v ↔ v = .ref a := by unfold Rp; exact Iff.rfl
theorem Rp.ty {n : String} {v : V} : Rp G m (.ty n) v ↔ v = .ty n := by unfold Rp; exact Iff.rfl
theorem Rp.fn {k : Nat} {v : V} : Rp G m (.fn k) v ↔ v = .ref (G.fa k) := by unfold Rp; exact Iff.rfl
theorem Rp.cls {k : Nat} {v : V} : Rp G m (.cls k) v ↔ v = .ref (G.ca k) := by unfold Rp; exact Iff.rfl
theorem Rp.tup {ds : List D} {v : V} : Rp G m (.tup ds) v ↔ ∃ a xs, v = .ref a ∧ TpV G m a xs ∧ (keyish ds = true → m.H a = some (.tup xs)) ∧ Rps G m ds xs := by
  constructor
  · intro h; unfold Rp at h; exact h
  · intro h; unfold Rp; exact h
theorem Rp.scr {ds : List D} {v : V} : Rp G m (.scr ds) v ↔ ∃ a xs, v = .ref a ∧ LsV G m a xs ∧ Rps G m ds xs := by
  constructor
  · intro h; unfold Rp at h; exact h
  · intro h; unfold Rp; exact h
theorem Rp.lst {ds : List D} {v : V} : Rp G m (.lst ds) v ↔ ∃ a xs, v = .ref a ∧ (m.F a ∧ m.H a = some (.lst xs)) ∧ Rps G m ds xs := by
  constructor
  · intro h; unfold Rp at h; exact h
  · intro h; unfold Rp; exact h
theorem Rp.dct {ks : List Key} {ds : List D} {v : V} : Rp G m (.dct ks ds) v ↔ ∃ a o kvs, v = .ref a ∧ m.F a ∧ m.H a = some (.frz o (.dK kvs)) ∧ kvs.map (·.1) = ks ∧ kok ks ∧ Rps G m ds (kvs.map (·.2)) := by
  constructor
  · intro h; unfold Rp at h; exact h
  · intro h; unfold Rp; exact h
theorem Rp.dc2 {ks : List (Int × Str)} {ds : List D} {v : V} : Rp G m (.dc2 ks ds) v ↔ ∃ a o kvs, v = .ref a ∧ m.F a ∧ m.H a = some (.frz o (.dT kvs)) ∧ kvs.map (·.1) = ks.map key2 ∧ kok2 ks ∧ Rps G m ds (kvs.map (·.2)) := by
  constructor
  · intro h; unfold Rp at h; exact h
  · intro h; unfold Rp; exact h
theorem Rp.ins {k : Nat} {ns : List Str} {ds : List D} {v : V} : Rp G m (.ins k ns ds) v ↔ ∃ a dx fs, v = .ref a ∧ m.F a ∧ m.H a = some (.ins (G.ca k) dx fs) ∧ fs.map (·.1) = ns ∧ Rps G m ds (fs.map (·.2)) := by
  constructor
  · intro h; unfold Rp at h; exact h
  · intro h; unfold Rp; exact h
theorem Rp.tup_new {ds : List D} {xs : List V} {a : Addr} (h : m.H a = some (.tup xs)) (r : Rps G m ds xs) : Rp G m (.tup ds) (.ref a) := Rp.tup.mpr ⟨a, xs, rfl, .inl h, fun _ => h, r⟩
theorem Rps.nil {vs : List V} : Rps G m [] vs ↔ vs = [] := by unfold Rps; exact Iff.rfl
theorem Rps.cons {d : D} {ds : List D} {vs : List V} : Rps G m (d :: ds) vs ↔ ∃ v r, vs = v :: r ∧ Rp G m d v ∧ Rps G m ds r := by
  constructor
  · intro h; unfold Rps at h; exact h
  · intro h; unfold Rps; exact h
theorem Rps.len : ∀ {ds : List D} {vs : List V}, Rps G m ds vs → ds.length = vs.length
  | [], _, h => by rw [Rps.nil.mp h] <;> rfl
  | d :: ds, _, h => by
    obtain ⟨v, r, rfl, _, t⟩ := Rps.cons.mp h
    simp [Rps.len t]
theorem Rps.get : ∀ {ds : List D} {vs : List V} {i : Nat} {d : D}, Rps G m ds vs → ds[i]? = some d → ∃ v, vs[i]? = some v ∧ Rp G m d v
  | [], _, _, _, _, e => by simp at e
  | d :: ds, _, 0, d', h, e => by
    obtain ⟨v, r, rfl, q, t⟩ := Rps.cons.mp h
    simp at e; subst e
    exact ⟨v, rfl, q⟩
  | d :: ds, _, i + 1, d', h, e => by
    obtain ⟨v, r, rfl, q, t⟩ := Rps.cons.mp h
    obtain ⟨w, e1, e2⟩ := Rps.get (i := i) t (by simpa using e)
    exact ⟨w, by simpa using e1, e2⟩
theorem Rps.one {d : D} {vs : List V} (h : Rps G m [d] vs) : ∃ v, vs = [v] ∧ Rp G m d v := by
  obtain ⟨v, r, e, q, t⟩ := Rps.cons.mp h
  rw [Rps.nil.mp t] at e
  exact ⟨v, e, q⟩
theorem Rps.two {d d' : D} {vs : List V} (h : Rps G m [d, d'] vs) : ∃ v v', vs = [v, v'] ∧ Rp G m d v ∧ Rp G m d' v' := by
  obtain ⟨v, r, e, q, t⟩ := Rps.cons.mp h
  obtain ⟨v', rfl, q'⟩ := Rps.one t
  exact ⟨v, v', e, q, q'⟩
theorem Rps.mk0 : Rps G m [] [] := Rps.nil.mpr rfl
theorem Rps.mk {d : D} {ds : List D} {v : V} {vs : List V} (h : Rp G m d v) (t : Rps G m ds vs) : Rps G m (d :: ds) (v :: vs) := Rps.cons.mpr ⟨v, vs, rfl, h, t⟩
theorem Rps.append : ∀ {ds es : List D} {vs ws : List V}, Rps G m ds vs → Rps G m es ws → Rps G m (ds ++ es) (vs ++ ws)
  | [], _, _, _, h, t => by rw [Rps.nil.mp h]; exact t
  | d :: ds, es, _, ws, h, t => by
    obtain ⟨v, r, rfl, q, s⟩ := Rps.cons.mp h
    exact Rps.mk q (Rps.append s t)
theorem Rps.set {x : D} {y : V} (hx : Rp G m x y) : ∀ {ds : List D} {vs : List V} (i : Nat), Rps G m ds vs → Rps G m (ds.set i x) (vs.set i y)
  | [], _, _, h => by rw [Rps.nil.mp h]; exact Rps.mk0
  | d :: ds, _, 0, h => by
    obtain ⟨v, r, rfl, q, s⟩ := Rps.cons.mp h
    exact Rps.mk hx s
  | d :: ds, _, i + 1, h => by
    obtain ⟨v, r, rfl, q, s⟩ := Rps.cons.mp h
    exact Rps.mk q (Rps.set hx i s)
theorem Rps.take : ∀ {ds : List D} {vs : List V} (n : Nat), Rps G m ds vs → Rps G m (ds.take n) (vs.take n)
  | _, _, 0, _ => by rw [List.take_zero, List.take_zero]; exact Rps.mk0
  | [], _, n + 1, h => by rw [Rps.nil.mp h]; exact Rps.mk0
  | d :: ds, _, n + 1, h => by
    obtain ⟨v, r, rfl, q, s⟩ := Rps.cons.mp h
    exact Rps.mk q (Rps.take n s)
theorem Rps.drop : ∀ {ds : List D} {vs : List V} (n : Nat), Rps G m ds vs → Rps G m (ds.drop n) (vs.drop n)
  | _, _, 0, h => h
  | [], _, n + 1, h => by rw [Rps.nil.mp h]; exact Rps.mk0
  | d :: ds, _, n + 1, h => by
    obtain ⟨v, r, rfl, q, s⟩ := Rps.cons.mp h
    exact Rps.drop n s
theorem Rps.dropLast {ds : List D} {vs : List V} (r : Rps G m ds vs) : Rps G m ds.dropLast vs.dropLast := by
  rw [List.dropLast_eq_take, List.dropLast_eq_take, r.len]
  exact Rps.take _ r
theorem Rps.erase : ∀ {ds : List D} {vs : List V} (k : Nat), Rps G m ds vs → Rps G m (ds.eraseIdx k) (vs.eraseIdx k)
  | [], _, k, r => by rw [Rps.nil.mp r]; exact Rps.mk0
  | d :: ds, _, 0, r => by
    obtain ⟨v, t, rfl, q, s⟩ := Rps.cons.mp r
    exact s
  | d :: ds, _, k + 1, r => by
    obtain ⟨v, t, rfl, q, s⟩ := Rps.cons.mp r
    exact Rps.mk q (Rps.erase k s)
theorem Rps.rev : ∀ {ds : List D} {vs : List V}, Rps G m ds vs → Rps G m ds.reverse vs.reverse
  | [], _, r => by rw [Rps.nil.mp r]; exact Rps.mk0
  | d :: ds, _, r => by
    obtain ⟨v, t, rfl, q, s⟩ := Rps.cons.mp r
    rw [List.reverse_cons, List.reverse_cons]
    exact (Rps.rev s).append (Rps.mk q Rps.mk0)
theorem Rps.flat {ds : List D} {vs : List V} (r : Rps G m ds vs) : ∀ n : Nat, Rps G m (List.replicate n ds).flatten (List.replicate n vs).flatten
  | 0 => Rps.mk0
  | n + 1 => by
    rw [List.replicate_succ, List.replicate_succ, List.flatten_cons, List.flatten_cons]
    exact r.append (Rps.flat r n)
theorem Rps.none_of {ds : List D} {vs : List V} {i : Nat} (r : Rps G m ds vs) (e : ds[i]? = none) : vs[i]? = none := by
  rw [List.getElem?_eq_none_iff] at e ⊢
  rw [← r.len]
  exact e
end

noncomputable def RFs (G : Gd) (m : Wd) (fs : List (Str × D)) (vs : List (Str × V)) : Prop := vs.map (·.1) = fs.map (·.1) ∧ Rps G m (fs.map (·.2)) (vs.map (·.2))
noncomputable def RpO (G : Gd) (m : Wd) (a : Addr) : O → Prop
  | .lst ds => ∃ xs, m.H a = some (.lst xs) ∧ Rps G m ds xs
  | .dct kvs => ∃ vs, m.H a = some (.dK vs) ∧ vs.map (·.1) = kvs.map (·.1) ∧ kok (kvs.map (·.1)) ∧ Rps G m (kvs.map (·.2)) (vs.map (·.2))
  | .dc2 kvs => ∃ vs, m.H a = some (.dT vs) ∧ vs.map (·.1) = kvs.map (fun x => key2 x.1) ∧ kok2 (kvs.map (·.1)) ∧ Rps G m (kvs.map (·.2)) (vs.map (·.2))
  | .ins k fs => ∃ dx vs, m.H a = some (.ins (G.ca k) dx vs) ∧ RFs G m fs vs
structure RS (G : Gd) (m : Wd) : Prop where
  st : ∀ a o, m.S a = some o → ¬ m.F a ∧ RpO G m a o
  ft : ∀ a, m.F a → ∃ o, m.H a = some o
theorem RFs.tk {G : Gd} {m m' : Wd} (k : RK m m') {fs : List (Str × D)} {vs : List (Str × V)} (h : RFs G m fs vs) : RFs G m' fs vs := ⟨h.1, Rps.tk k _ _ h.2⟩
theorem RpO.kept {G : Gd} {m m' : Wd} {a : Addr} {o : O} (k : RK m m') (e : m'.H a = m.H a) (h : RpO G m a o) : RpO G m' a o := by
  cases o with
  | lst ds => obtain ⟨xs, e1, r⟩ := h; exact ⟨xs, e.trans e1, Rps.tk k _ _ r⟩
  | dct kvs => obtain ⟨xs, e1, e2, e3, r⟩ := h; exact ⟨xs, e.trans e1, e2, e3, Rps.tk k _ _ r⟩
  | dc2 kvs => obtain ⟨xs, e1, e2, e3, r⟩ := h; exact ⟨xs, e.trans e1, e2, e3, Rps.tk k _ _ r⟩
  | ins c fs => obtain ⟨dx, xs, e1, r⟩ := h; exact ⟨dx, xs, e.trans e1, r.tk k⟩

noncomputable def Soft : HO → Prop
  | .lst _ => True
  | .dK _ => True
  | .dT _ => True
  | .ins _ _ _ => True
  | _ => False
theorem RpO.soft {G : Gd} {m : Wd} {a : Addr} {o : O} (h : RpO G m a o) : ∃ u, m.H a = some u ∧ Soft u := by
  cases o with
  | lst ds => obtain ⟨xs, e, _⟩ := h; exact ⟨_, e, trivial⟩
  | dct ds => obtain ⟨xs, e, _⟩ := h; exact ⟨_, e, trivial⟩
  | dc2 ds => obtain ⟨xs, e, _⟩ := h; exact ⟨_, e, trivial⟩
  | ins c fs => obtain ⟨dx, xs, e, _⟩ := h; exact ⟨_, e, trivial⟩
section
variable {G : Gd} {F : Addr → Prop} {S S' : Sto} {H : Hp} {p : Addr} {o : O} {u : HO} {m : Wd}
theorem RS.nil (R : RS G m) (h : m.H p = none) : m.S p = none := by
  cases e : m.S p with
  | none => rfl
  | some o =>
    obtain ⟨u, q, _⟩ := (R.st p o e).2.soft
    rw [h] at q; cases q
theorem RS.noF (R : RS G m) (h : m.H p = none) : ¬ m.F p := fun f => by
  obtain ⟨o, e⟩ := R.ft p f
  rw [h] at e; cases e

theorem RK.put (R : RS G ⟨F, S, H⟩) (e : S p = some o) {o' : O} : RK ⟨F, S, H⟩ ⟨F, S', upd H p u⟩ := by
  obtain ⟨nf, ro⟩ := R.st p o e
  obtain ⟨u0, hu, su⟩ := ro.soft
  refine ⟨fun a x f h => ⟨f, ?_⟩, fun a xs h => ?_⟩
  · show upd H p u a = _
    rw [upd_ne (fun z => by subst z; exact nf f)]; exact h
  · show upd H p u a = _
    have h : H a = _ := h
    have hu : H p = some u0 := hu
    rw [upd_ne (fun z => by subst z; rw [hu] at h; cases h; exact su)]; exact h
theorem TK.put (R : RS G ⟨F, S, H⟩) (e : S p = some o) {o' : O} : TK ⟨F, S, H⟩ ⟨F, S.set p o', upd H p u⟩ := by
  refine ⟨RK.put R e (o' := o'), fun a x h n => ?_⟩
  have hp : a ≠ p := fun z => by subst z; exact nomatch (show some o = Option.none from e.symm.trans n)
  exact ⟨by show upd H p u a = _; rw [upd_ne hp]; exact h, by show S.set p o' a = _; rw [Sto.ne hp]; exact n, id⟩
theorem RS.put (R : RS G ⟨F, S, H⟩) (e : S p = some o) {o' : O} (h : RpO G ⟨F, S.set p o', upd H p u⟩ p o') : RS G ⟨F, S.set p o', upd H p u⟩ := by
  obtain ⟨nf, ro⟩ := R.st p o e
  obtain ⟨u0, hu, su⟩ := ro.soft
  refine ⟨fun a x q => ?_, fun a f => ?_⟩
  · by_cases ha : a = p
    · subst ha
      have q : S.set a o' a = some x := q
      rw [Sto.same] at q; cases q
      exact ⟨nf, h⟩
    · have q : S.set p o' a = some x := q
      rw [Sto.ne ha] at q
      obtain ⟨nf', r⟩ := R.st a x q
      exact ⟨nf', r.kept (RK.put R e (o' := o')) (upd_ne ha)⟩
  · by_cases ha : a = p
    · subst ha; exact ⟨_, upd_same⟩
    · obtain ⟨x, hx⟩ := R.ft a f
      exact ⟨x, by show upd H p u a = _; rw [upd_ne ha]; exact hx⟩

theorem RK.new (R : RS G ⟨F, S, H⟩) (n : H p = none) {F' : Addr → Prop} (hF : ∀ a, F a → F' a) : RK ⟨F, S, H⟩ ⟨F', S', upd H p u⟩ := by
  refine ⟨fun a x f h => ⟨hF a f, ?_⟩, fun a xs h => ?_⟩
  · show upd H p u a = _
    rw [upd_ne (ne_of_none h n)]; exact h
  · show upd H p u a = _
    rw [upd_ne (ne_of_none h n)]; exact h
theorem TK.new (R : RS G ⟨F, S, H⟩) (n : H p = none) : TK ⟨F, S, H⟩ ⟨F, S.set p o, upd H p u⟩ :=
  ⟨RK.new R n fun _ f => f, fun a x h z => ⟨by show upd H p u a = _; rw [upd_ne (ne_of_none h n)]; exact h, by show S.set p o a = _; rw [Sto.ne (ne_of_none h n)]; exact z, id⟩⟩
theorem TK.lay (R : RS G ⟨F, S, H⟩) (n : H p = none) : TK ⟨F, S, H⟩ ⟨F, S, upd H p u⟩ :=
  ⟨RK.new R n fun _ f => f, fun a x h z => ⟨by show upd H p u a = _; rw [upd_ne (ne_of_none h n)]; exact h, z, id⟩⟩
theorem TK.layF (R : RS G ⟨F, S, H⟩) (n : H p = none) : TK ⟨F, S, H⟩ ⟨insF F p, S, upd H p u⟩ :=
  ⟨RK.new R n fun _ f => .inr f, fun a x h z => ⟨by show upd H p u a = _; rw [upd_ne (ne_of_none h n)]; exact h, z, fun f => f.elim (fun e => absurd e (ne_of_none h n)) id⟩⟩
theorem RS.new (R : RS G ⟨F, S, H⟩) (n : H p = none) (h : RpO G ⟨F, S.set p o, upd H p u⟩ p o) : RS G ⟨F, S.set p o, upd H p u⟩ := by
  refine ⟨fun a x q => ?_, fun a f => ?_⟩
  · by_cases ha : a = p
    · subst ha
      have q : S.set a o a = some x := q
      rw [Sto.same] at q; cases q
      exact ⟨R.noF n, h⟩
    · have q : S.set p o a = some x := q
      rw [Sto.ne ha] at q
      obtain ⟨nf', r⟩ := R.st a x q
      exact ⟨nf', r.kept (RK.new R n fun _ f => f) (upd_ne ha)⟩
  · obtain ⟨x, hx⟩ := R.ft a f
    exact ⟨x, by show upd H p u a = _; rw [upd_ne (ne_of_none hx n)]; exact hx⟩
theorem RS.lay (R : RS G ⟨F, S, H⟩) (n : H p = Option.none) : RS G ⟨F, S, upd H p u⟩ := by
  refine ⟨fun a x q => ?_, fun a f => ?_⟩
  · obtain ⟨nf', r⟩ := R.st a x q
    obtain ⟨_, hu, _⟩ := r.soft
    exact ⟨nf', r.kept (RK.new R n fun _ f => f) (upd_ne (ne_of_none hu n))⟩
  · obtain ⟨x, hx⟩ := R.ft a f
    exact ⟨x, by show upd H p u a = _; rw [upd_ne (ne_of_none hx n)]; exact hx⟩
theorem RS.layF (R : RS G ⟨F, S, H⟩) (n : H p = Option.none) : RS G ⟨insF F p, S, upd H p u⟩ := by
  refine ⟨fun a x q => ?_, fun a f => ?_⟩
  · obtain ⟨nf', r⟩ := R.st a x q
    obtain ⟨_, hu, _⟩ := r.soft
    have hp := ne_of_none hu n
    exact ⟨fun f => f.elim hp nf', r.kept (RK.new R n fun _ f => .inr f) (upd_ne hp)⟩
  · rcases f with f | f
    · subst f; exact ⟨_, upd_same⟩
    · obtain ⟨x, hx⟩ := R.ft a f
      exact ⟨x, by show upd H p u a = _; rw [upd_ne (ne_of_none hx n)]; exact hx⟩

theorem TK.drop (h : Sto.le S' S) : TK ⟨F, S, H⟩ ⟨F, S', H⟩ := ⟨⟨fun _ _ f h => ⟨f, h⟩, fun _ _ h => h⟩, fun a x e n => ⟨e, h.none n, id⟩⟩
theorem RS.drop (R : RS G ⟨F, S, H⟩) (h : Sto.le S' S) : RS G ⟨F, S', H⟩ := ⟨fun a x e => by
  obtain ⟨nf, r⟩ := R.st a x (h a x e)
  exact ⟨nf, r.kept (TK.drop (S := S) (S' := S') h).toRK rfl⟩, R.ft⟩

theorem TK.frz (R : RS G ⟨F, S, H⟩) (e : S p = some o) {H' : Hp} (hH : ∀ a, a ≠ p → H' a = H a) : TK ⟨F, S, H⟩ ⟨insF F p, S.del p, H'⟩ := by
  obtain ⟨nf, ro⟩ := R.st p o e
  obtain ⟨u0, hu, su⟩ := ro.soft
  refine ⟨⟨fun a x f h => ⟨.inr f, ?_⟩, fun a xs h => ?_⟩, fun a x h n => ?_⟩
  · exact (hH a (fun z => by subst z; exact nf f)).trans h
  · have h : H a = _ := h
    have hu : H p = some u0 := hu
    exact (hH a (fun z => by subst z; rw [hu] at h; cases h; exact su)).trans h
  · have hp : a ≠ p := fun z => by subst z; exact nomatch (show some o = Option.none from e.symm.trans n)
    exact ⟨(hH a hp).trans h, by show S.del p a = _; rw [Sto.del_ne hp]; exact n, fun f => f.elim (fun z => absurd z hp) id⟩
theorem RS.frz (R : RS G ⟨F, S, H⟩) (e : S p = some o) {H' : Hp} (hH : ∀ a, a ≠ p → H' a = H a) (hp : ∃ x, H' p = some x) : RS G ⟨insF F p, S.del p, H'⟩ := by
  have k := TK.frz R e hH
  refine ⟨fun a x q => ?_, fun a f => ?_⟩
  · have q : S.del p a = some x := q
    have ha : a ≠ p := fun z => by subst z; rw [Sto.gone] at q; cases q
    rw [Sto.del_ne ha] at q
    obtain ⟨nf', r⟩ := R.st a x q
    exact ⟨fun f => f.elim ha nf', r.kept k.toRK (hH a ha)⟩
  · by_cases ha : a = p
    · subst ha; exact hp
    · rcases f with f | f
      · exact absurd f ha
      · obtain ⟨x, hx⟩ := R.ft a f
        exact ⟨x, (hH a ha).trans hx⟩
end

noncomputable abbrev Fr := List (Option D)

noncomputable def Zx (c : Value) (d : Option Addr) (o : Obj) : Prop := o.cls = c ∧ o.dict = d

noncomputable def XAt (G : Gx) (m : Wd) (x : Exc) (a : Addr) : Prop := ∃ k oe dd, x.cls = .cls k ∧ G.px a oe ∧ Zx (.ref (G.ca k)) dd oe ∧ (∃ fv, oe.data = .fields fv) ∧
  ((x.fs = [] ∧ dd = none) ∨ ∃ b vs, dd = some b ∧ m.F b ∧ m.H b = some (.xd vs) ∧ RFs G m x.fs vs)
theorem XAt.tk {G : Gx} {m m' : Wd} (k : RK m m') {x : Exc} {a : Addr} (h : XAt G m x a) : XAt G m' x a := by
  obtain ⟨c, oe, dd, e1, p, z, f, r⟩ := h
  refine ⟨c, oe, dd, e1, p, z, f, ?_⟩
  rcases r with r | ⟨b, fs, e, f, q, r⟩
  · exact .inl r
  · obtain ⟨f', q'⟩ := k.fz b _ f q
    exact .inr ⟨b, fs, e, f', q', r.tk k⟩
structure RF (G : Gx) (m : Wd) (fr : Fr) (σ : L2.St) : Prop where
  len : fr.length = σ.length
  at_ : ∀ (i : Nat) (d : D), fr[i]? = some (some d) → ∃ v, σ[i]? = some (some v) ∧ Rp G m d v
  ex : ∀ i x, G.xi = some (i, x) → ∃ a, σ[i]? = some (some (.ref a)) ∧ XAt G m x a
theorem RF.tk {G : Gx} {m m' : Wd} {fr : Fr} {σ : L2.St} (k : RK m m') (R : RF G m fr σ) : RF G m' fr σ :=
  ⟨R.len, fun i d e => by obtain ⟨v, h1, h2⟩ := R.at_ i d e; exact ⟨v, h1, Rp.tk k d v h2⟩, fun i x e => by obtain ⟨a, h1, h2⟩ := R.ex i x e; exact ⟨a, h1, h2.tk k⟩⟩
theorem RF.set {G : Gx} {m : Wd} {fr : Fr} {σ : L2.St} {d : D} {v : V} (R : RF G m fr σ) (i : Nat) (hx : G.fre i) (h : Rp G m d v) : RF G m (fr.set i (some d)) (σ.set i (some v)) := by
  refine ⟨by simp [R.len], fun j d' e => ?_, fun j x e => ?_⟩
  · by_cases hj : i = j
    · subst hj
      by_cases hl : i < fr.length
      · rw [List.getElem?_set_self hl] at e
        cases e
        exact ⟨v, by rw [List.getElem?_set_self (by rw [← R.len]; exact hl)], h⟩
      · rw [List.getElem?_eq_none (by simpa using hl)] at e; cases e
    · rw [List.getElem?_set_ne hj] at e
      obtain ⟨w, h1, h2⟩ := R.at_ j d' e
      exact ⟨w, by rw [List.getElem?_set_ne hj]; exact h1, h2⟩
  · have hj : i ≠ j := fun z => by subst z; exact hx x e
    rw [List.getElem?_set_ne hj]
    exact R.ex j x e

theorem RF.tell {G : Gx} {m : Wd} {fr : Fr} {σ : L2.St} {d d' : D} (R : RF G m fr σ) (i : Nat) (e : fr[i]? = some (some d)) (h : ∀ v, Rp G m d v → Rp G m d' v) : RF G m (fr.set i (some d')) σ := by
  refine ⟨by simp [R.len], fun j x q => ?_, R.ex⟩
  by_cases hj : i = j
  · subst hj
    by_cases hl : i < fr.length
    · rw [List.getElem?_set_self hl] at q
      cases q
      obtain ⟨v, h1, h2⟩ := R.at_ i d e
      exact ⟨v, h1, h v h2⟩
    · rw [List.getElem?_eq_none (by simpa using hl)] at q; cases q
  · rw [List.getElem?_set_ne hj] at q
    exact R.at_ j x q
noncomputable def wipeD (fr : Fr) : List Nat → Fr
  | [] => fr
  | v :: vs => (wipeD fr vs).set v none
theorem RF.wipe {G : Gx} {m : Wd} {fr : Fr} {σ : L2.St} (R : RF G m fr σ) : ∀ vs : List Nat, (∀ i ∈ vs, G.fre i) → RF G m (wipeD fr vs) (L2.wipe σ vs)
  | [], _ => R
  | v :: vs, hv => by
    have ih := R.wipe vs fun i hi => hv i (List.mem_cons_of_mem _ hi)
    unfold wipeD L2.wipe
    refine ⟨by simp [ih.len], fun j d e => ?_, fun j x e => ?_⟩
    · by_cases hj : v = j
      · subst hj
        by_cases hl : v < (wipeD fr vs).length
        · rw [List.getElem?_set_self hl] at e; cases e
        · rw [List.getElem?_eq_none (by simpa using hl)] at e; cases e
      · rw [List.getElem?_set_ne hj] at e
        obtain ⟨w, h1, h2⟩ := ih.at_ j d e
        exact ⟨w, by rw [List.getElem?_set_ne hj]; exact h1, h2⟩
    · have hj : v ≠ j := fun z => by subst z; exact hv v (List.mem_cons_self ..) x e
      rw [List.getElem?_set_ne hj]
      exact ih.ex j x e

noncomputable def clsV (G : Gd) : D → Value
  | .cls k => .ref (G.ca k)
  | .ty n => .type n
  | _ => .none

structure RX (G : Gd) (m : Wd) (x : Exc) (cls : Value) (d : Option Addr) : Prop where
  cls : cls = clsV G x.cls
  fs : (x.fs = [] ∧ d = none) ∨ ∃ a vs, d = some a ∧ m.F a ∧ m.H a = some (.xd vs) ∧ RFs G m x.fs vs
theorem RX.tk {G : Gd} {m m' : Wd} {x : Exc} {cls : Value} {d : Option Addr} (k : RK m m') (h : RX G m x cls d) : RX G m' x cls d := by
  refine ⟨h.cls, ?_⟩
  rcases h.fs with h | ⟨a, vs, e, f, q, r⟩
  · exact .inl h
  · obtain ⟨f', q'⟩ := k.fz a _ f q
    exact .inr ⟨a, vs, e, f', q', r.tk k⟩

noncomputable abbrev PoE := D → Sto → Prop
noncomputable abbrev PoX := Exc → Sto → Prop
noncomputable abbrev PoL := List D → Sto → Prop
structure Po where
  nx : Fr → Sto → Prop
  rt : D → Sto → Prop
  bk : Fr → Sto → Prop := fun _ _ => False
  ct : Fr → Sto → Prop := fun _ _ => False
  xc : Exc → Fr → Sto → Prop
noncomputable abbrev WEx := Fr → Sto → PoE → PoX → Prop
noncomputable abbrev WLs := Fr → Sto → PoL → PoX → Prop
noncomputable abbrev WSt := Fr → Sto → Po → Prop

noncomputable def FE (G : Gd) (m : Wd) (Qd : PoE) (Q : VK) : Prop := ∀ d F S v H, TK m ⟨F, S, H⟩ → RS G ⟨F, S, H⟩ → Rp G ⟨F, S, H⟩ d v → Qd d S → Q v H
noncomputable def FA (G : Gd) (m : Wd) (Qd : PoL) (Q : List V → Hp → Prop) : Prop := ∀ ds F S vs H, TK m ⟨F, S, H⟩ → RS G ⟨F, S, H⟩ → Rps G ⟨F, S, H⟩ ds vs → Qd ds S → Q vs H
noncomputable def FX (G : Gd) (m : Wd) (Ed : PoX) (E : XK) : Prop := ∀ x F S cls d H, TK m ⟨F, S, H⟩ → RS G ⟨F, S, H⟩ → RX G ⟨F, S, H⟩ x cls d → Ed x S → E cls d H
theorem FE.tk {G : Gd} {m m1 : Wd} {Qd : PoE} {Q : VK} (k : TK m m1) (f : FE G m Qd Q) : FE G m1 Qd Q := fun d F S v H k' => f d F S v H (k.trans k')
theorem FA.tk {G : Gd} {m m1 : Wd} {Qd : PoL} {Q : List V → Hp → Prop} (k : TK m m1) (f : FA G m Qd Q) : FA G m1 Qd Q := fun d F S v H k' => f d F S v H (k.trans k')
theorem FX.tk {G : Gd} {m m1 : Wd} {Ed : PoX} {E : XK} (k : TK m m1) (f : FX G m Ed E) : FX G m1 Ed E := fun x F S c d H k' => f x F S c d H (k.trans k')

noncomputable def LE (G : Gx) (W : WX) (w : WEx) : TE := fun σ H Q => ∃ fr F S Qd Ed, RF G ⟨F, S, H⟩ fr σ ∧ RS G ⟨F, S, H⟩ ∧ w fr S Qd Ed ∧ FE G ⟨F, S, H⟩ Qd Q ∧ FX G ⟨F, S, H⟩ Ed fun c d H' => W c d σ H'
noncomputable def LA (G : Gx) (W : WX) (w : WLs) : TA := fun σ H Q => ∃ fr F S Qd Ed, RF G ⟨F, S, H⟩ fr σ ∧ RS G ⟨F, S, H⟩ ∧ w fr S Qd Ed ∧ FA G ⟨F, S, H⟩ Qd Q ∧ FX G ⟨F, S, H⟩ Ed fun c d H' => W c d σ H'
noncomputable def LT (G : Gx) (W : WX) (w : WEx) : TT := fun σ H Q => ∃ fr F S Qd Ed, RF G ⟨F, S, H⟩ fr σ ∧ RS G ⟨F, S, H⟩ ∧ w fr S Qd Ed ∧ (∀ d F' S' H', TK ⟨F, S, H⟩ ⟨F', S', H'⟩ → RS G ⟨F', S', H'⟩ → Qd d S' → ∃ b, d = .bl b ∧ Q b H') ∧ FX G ⟨F, S, H⟩ Ed fun c d H' => W c d σ H'

noncomputable abbrev W2 := D → D → Sto → PoE → Prop
noncomputable abbrev WB := List D → Sto → PoE → Prop
noncomputable def L2o (G : Gd) (w : W2) : R2 := fun x y H Q => ∃ a b F S Qd, RS G ⟨F, S, H⟩ ∧ Rp G ⟨F, S, H⟩ a x ∧ Rp G ⟨F, S, H⟩ b y ∧ w a b S Qd ∧ FE G ⟨F, S, H⟩ Qd Q
noncomputable def LBo (G : Gd) (w : WB) : List V → Hp → VK → Prop := fun xs H Q => ∃ as F S Qd, RS G ⟨F, S, H⟩ ∧ Rps G ⟨F, S, H⟩ as xs ∧ w as S Qd ∧ FE G ⟨F, S, H⟩ Qd Q
structure FS (G : Gx) (m : Wd) (P : Po) (Dn : Ends) (W : WX) : Prop where
  nx : ∀ fr F S σ H, TK m ⟨F, S, H⟩ → RF G ⟨F, S, H⟩ fr σ → RS G ⟨F, S, H⟩ → P.nx fr S → Dn.nx σ H
  rt : FE G m P.rt Dn.rt
  bk : ∀ fr F S σ H, TK m ⟨F, S, H⟩ → RF G ⟨F, S, H⟩ fr σ → RS G ⟨F, S, H⟩ → P.bk fr S → Dn.bk σ H
  ct : ∀ fr F S σ H, TK m ⟨F, S, H⟩ → RF G ⟨F, S, H⟩ fr σ → RS G ⟨F, S, H⟩ → P.ct fr S → Dn.ct σ H
  xc : ∀ x fr F S c d σ H, TK m ⟨F, S, H⟩ → RF G ⟨F, S, H⟩ fr σ → RS G ⟨F, S, H⟩ → RX G ⟨F, S, H⟩ x c d → P.xc x fr S → W c d σ H
theorem FS.tk {G : Gx} {m m1 : Wd} {P : Po} {Dn : Ends} {W : WX} (k : TK m m1) (f : FS G m P Dn W) : FS G m1 P Dn W :=
  ⟨fun fr F S σ H k' => f.nx fr F S σ H (k.trans k'), f.rt.tk k, fun fr F S σ H k' => f.bk fr F S σ H (k.trans k'), fun fr F S σ H k' => f.ct fr F S σ H (k.trans k'), fun x fr F S c d σ H k' => f.xc x fr F S c d σ H (k.trans k')⟩
noncomputable def LS (G : Gx) (W : WX) (w : WSt) : TS := fun Dn σ H => ∃ fr F S P, RF G ⟨F, S, H⟩ fr σ ∧ RS G ⟨F, S, H⟩ ∧ w fr S P ∧ FS G ⟨F, S, H⟩ P Dn W

theorem FS.fx {G : Gx} {m : Wd} {P : Po} {Dn : Ends} {W : WX} (f : FS G m P Dn W) {fr : Fr} {σ : L2.St} (R : RF G m fr σ) : FX G m (fun x S => P.xc x fr S) fun c d H' => W c d σ H' :=
  fun x F S c d H k rs rx h => f.xc x fr F S c d σ H k (R.tk k.toRK) rs rx h
end L4

namespace L4
open PySem PySem.Spec PyProof.Rows L2

inductive BOp where
  | add | sub | mul | mod | fdiv | pow
inductive COp where
  | eq | ne | lt | le | gt | ge | isin | notin | is_ | isnot
inductive Bf where
  | len | abs | int | max | min | divmod | repr | str | all | any | list | tuple | sum | isi | dict | sorted | lenset | sortset | minl | maxl | lrng | lrev | lvals | litems | sitems
  deriving DecidableEq
inductive Bm where
  | append | pop | popAt | extend | reverse | clear | join | remove | index | insert | get | get1 | setdefault | dpop | dclear | split | partition | startswith | endswith | upper | count | isdigit | lstrip
  | keys | values | items
  deriving DecidableEq
mutual
inductive Tg where
  | nm (i : Nat) | tp (ts : Tgs)
inductive Tgs where
  | nil | cons (t : Tg) (ts : Tgs)
end
inductive Dw where
  | keys | values | items
  deriving DecidableEq
mutual
inductive IE where
  | var (i : Nat) | cst (d : D) | fnv (k : Nat) | clv (k : Nat) | gc (j : Nat) | tyv (n : String)
  | met (m : Bm) (fz : Bool) (o : IE) (es : IEs) | slc (fz : Bool) (o : IE) (l : Bool) (lo : IE) (h : Bool) (hi : IE) | rvs (fz : Bool) (o : IE) | gidx (j : Nat) (e : IE) | chain (o1 o2 : COp) (a b c : IE)
  | bin (o : BOp) (fz : Bool) (a b : IE) | neg (a : IE) | nt (a : IE)
  | cmp (o : COp) (a b : IE) | conj (es : IEs) | disj (es : IEs) | ite (t a b : IE)
  | tup (es : IEs) | lst (fz : Bool) (es : IEs) | dsp (t2 : Bool) (es : IEs) | idx (a i : IE) | fld (o : IE) (x : Str)
  | call (k : Nat) (es : IEs) | callk (k : Nat) (nm : List Str) (pt : List Nat) (dv : List D) (es ks : IEs) | callv (i : Nat) (es : IEs)
  | make (c : Nat) (nm : List Str) (pt : List Nat) (dv : List D) (es ks : IEs) | mcl (x : Str) (nm : List Str) (pt : List Nat) (dv : List D) (o : IE) (es ks : IEs)
  | blt (f : Bf) (fz : Bool) (es : IEs) | comp (fz : Bool) (tg : Tg) (it : II) (ts : IEs) (e : IE) (own : List Nat) | fst (es : IEs) | frz (e : IE) | frzo (e : IE) | xis (c : IE) | xfd (x : Str) | cllx (k : Nat) (es : IEs) | oeq (a b : IE) | ocmp (neg : Bool) (a b : IE) | osp (r : Bool) (a : IE)
inductive IEs where
  | nil | cons (e : IE) (es : IEs)
inductive II where
  | rng1 (e : IE) | rng2 (a b : IE) | rng3 (a b c : IE) | seq (e : IE) | txt (e : IE) | enm (e : IE) | zip (a b : IE) | rev (e : IE) | dct (w : Dw) (e : IE) | lck (w : Dw) (e : IE)
end
mutual
inductive IS where
  | asg (i : Nat) (e : IE) | asgc (i : Nat) (e : IE) | par (i j : Nat) (a b : IE) | asgt (ts : ITs) (e : IE) | sub (o i e : IE) | fset (o : IE) (x : Str) (e : IE)
  | exp (e : IE) | ret (e : IE) | retn | ifs (t : IE) (a b : ISs) | fors (tg : Tg) (it : II) (b : ISs) | whil (t : IE) (b : ISs)
  | rais (k : Nat) (es : IEs) | raif (k : Nat) (es : IEs) | tryo (b : ISs) (hs : IHs) | trye (b : ISs) (hs : IHs) (el : ISs) | pass | frz (i : Nat)
inductive ISs where
  | nil | cons (s : IS) (ss : ISs)
inductive IHs where
  | nil | cons (ks : List Nat) (nm : Option Nat) (b : ISs) (r : IHs)
inductive IT where
  | nm (i : Nat) | sub (o i : IE)
inductive ITs where
  | nil | cons (t : IT) (ts : ITs)
end
noncomputable def ITs.len : ITs → Nat
  | .nil => 0
  | .cons _ ts => ts.len + 1
noncomputable def IEs.len : IEs → Nat
  | .nil => 0
  | .cons _ es => es.len + 1
noncomputable def Tgs.len : Tgs → Nat
  | .nil => 0
  | .cons _ ts => ts.len + 1

structure Pg where
  ncl : Nat := 0
  sub : Nat → Nat → Bool := fun _ _ => false
  ini : Nat → Option Nat := fun _ => none
  mth : Nat → Str → Option Nat := fun _ _ => none
  flds : Nat → List Str := fun _ => []
  xfs : Nat → List Str := fun _ => []
  gcs : List (Str × D) := []
  exc : Nat → Bool := fun _ => false

noncomputable def lv (S : Sto) : D → Option (List D)
  | .lst xs => some xs
  | .ref p => match S p with
    | some (.lst xs) => some xs
    | _ => none
  | _ => none

noncomputable def sv (S : Sto) : D → Option (List D)
  | .tup xs => some xs
  | .lst xs => some xs
  | .scr xs => some xs
  | .ref p => match S p with
    | some (.lst xs) => some xs
    | _ => none
  | _ => none

noncomputable def dv (S : Sto) : D → Option (List (Key × D))
  | .dct ks vs => some (ks.zip vs)
  | .ref p => match S p with
    | some (.dct kvs) => some kvs
    | _ => none
  | _ => none
noncomputable def dv2 (S : Sto) : D → Option (List ((Int × Str) × D))
  | .dc2 ks vs => some (ks.zip vs)
  | .ref p => match S p with
    | some (.dc2 kvs) => some kvs
    | _ => none
  | _ => none

noncomputable def iv (S : Sto) : D → Option (Nat × List (Str × D))
  | .ins k ns vs => some (k, ns.zip vs)
  | .ref p => match S p with
    | some (.ins k fs) => some (k, fs)
    | _ => none
  | _ => none
noncomputable def keyD : D → Option Key
  | .int i => some (.inl i)
  | .str x => some (.inr x)
  | _ => none
noncomputable def keyD2 : D → Option (Int × Str)
  | .tup ds => match ds with
    | [.int i, .str x] => some (i, x)
    | _ => none
  | _ => none
noncomputable def dKey : Key → D
  | .inl i => .int i
  | .inr x => .str x
noncomputable def dKey2 (k : Int × Str) : D := .tup [.int k.1, .str k.2]

noncomputable def frzO : O → D
  | .lst xs => .lst xs
  | .dct kvs => .dct (kvs.map (·.1)) (kvs.map (·.2))
  | .dc2 kvs => .dc2 (kvs.map (·.1)) (kvs.map (·.2))
  | .ins k fs => .ins k (fs.map (·.1)) (fs.map (·.2))

noncomputable def newL (fz : Bool) (xs : List D) (S : Sto) (Q : PoE) : Prop := if fz = true then Q (.lst xs) S else ∀ p, S p = none → Q (.ref p) (S.set p (.lst xs))

noncomputable def newO (o : O) (S : Sto) (Q : PoE) : Prop := ∀ p, S p = none → Q (.ref p) (S.set p o)

noncomputable def frzK (x : D) (S : Sto) (Q : PoE) : Prop := match x with
  | .ref p => match S p with
    | some o => Q (frzO o) (S.del p)
    | none => False
  | x => Q x S

noncomputable def frzA (x : D) (S : Sto) (Q : PoE) : Prop := frzK x S Q ∨ Q x S
noncomputable def getK {κ : Type} [DecidableEq κ] (kvs : List (κ × D)) (k : κ) : Option D := (kvs.find? fun kv => decide (kv.1 = k)).map (·.2)
noncomputable def putD {κ : Type} [DecidableEq κ] (kvs : List (κ × D)) (k : κ) (v : D) : List (κ × D) :=
  if kvs.any (fun kv => decide (kv.1 = k)) = true then kvs.map (fun kv => if kv.1 = k then (kv.1, v) else kv) else kvs ++ [(k, v)]
noncomputable def mergeD (kvs more : List (Key × D)) : List (Key × D) := more.foldl (fun acc kv => putD acc kv.1 kv.2) kvs

noncomputable def b2I (b : Bool) : Int := if b then 1 else 0
mutual
noncomputable def plainN : Nat → D → Bool
  | _, .non => true
  | _, .bl _ => true
  | _, .int _ => true
  | _, .str _ => true
  | n, .tup xs => match n with
    | 0 => false
    | n + 1 => plainNs n xs
  | n, .lst xs => match n with
    | 0 => false
    | n + 1 => plainNs n xs
  | _, _ => false
noncomputable def plainNs : Nat → List D → Bool
  | _, [] => true
  | n, x :: xs => plainN n x && plainNs n xs
end
mutual
noncomputable def eqD : D → D → Bool
  | .non, y => match y with
    | .non => true
    | _ => false
  | .bl a, y => match y with
    | .bl b => a == b
    | .int j => decide (b2I a = j)
    | _ => false
  | .int i, y => match y with
    | .bl b => decide (i = b2I b)
    | .int j => decide (i = j)
    | _ => false
  | .str a, y => match y with
    | .str b => decide (a = b)
    | _ => false
  | .tup xs, y => match y with
    | .tup ys => eqDs xs ys
    | _ => false
  | .lst xs, y => match y with
    | .lst ys => eqDs xs ys
    | _ => false
  | _, _ => false
noncomputable def eqDs : List D → List D → Bool
  | [], ys => ys.isEmpty
  | x :: xs, ys => match ys with
    | [] => false
    | y :: ys => eqD x y && eqDs xs ys
end
noncomputable def topD (S : Sto) (d : D) : D := match d with
  | .ref p => match S p with
    | some (.lst xs) => .lst xs
    | _ => .ref p
  | d => d

noncomputable def resD : Nat → Sto → D → D
  | 0, _, d => d
  | n + 1, S, d => match d with
    | .tup ds => .tup (ds.map (resD n S))
    | .lst ds => .lst (ds.map (resD n S))
    | .dct ks ds => .dct ks (ds.map (resD n S))
    | .ref p => match S p with
      | some (.lst xs) => .lst (xs.map (resD n S))
      | some (.dct kvs) => .dct (kvs.map (·.1)) (kvs.map fun kv => resD n S kv.2)
      | _ => .ref p
    | d => d

noncomputable def dctEq0 (S : Sto) (a b : D) : Option Bool := match dv S a, dv S b with
  | some ks, some ls => if (ks.all (fun p => plainN 60 (resD 8 S p.2)) && ls.all (fun p => plainN 60 (resD 8 S p.2))) = true then some (decide (ks.length = ls.length) && ks.all fun p => match getK ls p.1 with
      | some u => eqD (resD 8 S p.2) (resD 8 S u)
      | none => false) else none
  | _, _ => none

noncomputable def itmEq (S : Sto) (a b : D) : Bool := (plainN 60 (resD 8 S a) && plainN 60 (resD 8 S b) && eqD (resD 8 S a) (resD 8 S b)) || dctEq0 S a b == some true
noncomputable def lstEq (S : Sto) : List D → List D → Bool
  | [], [] => true
  | x :: xs, y :: ys => itmEq S x y && lstEq S xs ys
  | _, _ => false

noncomputable def dctEq (S : Sto) (a b : D) : Option Bool := match dctEq0 S a b with
  | some r => some r
  | none => match lv S a, lv S b with
    | some xs, some ys => if lstEq S xs ys = true then some true else none
    | _, _ => none

noncomputable def Mul (i j : Int) : Prop := i.natAbs < 2 ^ 400000 ∧ j.natAbs < 2 ^ 400000
noncomputable def Dvs (j : Int) : Prop := 0 < j ∧ j.natAbs < 2 ^ 8900
noncomputable def Line (n : Nat) : Prop := n ≤ 16000000

noncomputable def repS (z : Str) (n : Nat) : Str := ⟨(List.replicate n z.cps).foldl (· ++ ·) #[]⟩
noncomputable def wpBin (o : BOp) (fz : Bool) : W2 := fun a b S Q => match o with
  | .add => match a, b with
    | .int i, .int j => Q (.int (i + j)) S
    | .str x, .str y => Line (x.length + y.length) ∧ Q (.str (x ++ y)) S
    | .tup xs, .tup ys => (xs ≠ [] ∧ Line (xs.length + ys.length)) ∧ Q (.tup (xs ++ ys)) S
    | a, b => match lv S a, lv S b with
      | some xs, some ys => Line (xs.length + ys.length) ∧ newL fz (xs ++ ys) S Q
      | _, _ => False
  | .sub => match a, b with
    | .int i, .int j => Q (.int (i - j)) S
    | _, _ => False
  | .mul => match a, b with
    | .int i, .int j => Mul i j ∧ Q (.int (i * j)) S
    | .tup xs, .int k => (xs ≠ [] ∧ 2 ≤ k ∧ k ≤ 1000 ∧ xs.length ≤ 1000) ∧ Q (.tup (List.replicate k.toNat xs).flatten) S
    | .str z, .int k => (2 ≤ k ∧ k ≤ 1000 ∧ 1 ≤ z.length ∧ z.length ≤ 1000) ∧ Q (.str (repS z k.toNat)) S
    | a, .int k => match lv S a with
      | some xs => (k < 2 ^ 30 ∧ -(2 ^ 30) < k ∧ Line (xs.length * k.toNat)) ∧ newL fz (List.replicate k.toNat xs).flatten S Q
      | none => False
    | _, _ => False
  | .mod => match a, b with
    | .int i, .int j => j ≠ 0 ∧ Q (.int (i.fmod j)) S
    | _, _ => False
  | .fdiv => match a, b with
    | .int i, .int j => (j ≠ 0 ∧ j.natAbs < 2 ^ 8900) ∧ Q (.int (i.fdiv j)) S
    | _, _ => False
  | .pow => match a, b with
    | .int i, .int j => (0 ≤ j ∧ j ≤ 1000 ∧ i.natAbs < 2 ^ 64) ∧ Q (.int (i ^ j.toNat)) S
    | _, _ => False
noncomputable def isNo : D → Bool
  | .non => true
  | _ => false
noncomputable def isStrs : List D → Bool
  | [] => true
  | .str _ :: r => isStrs r
  | _ => false

noncomputable def inC (a b : D) (S : Sto) (K : Bool → Prop) : Prop := match sv S b with
  | some ys => ((plainN 60 (topD S a) = true ∧ plainNs 59 ys = true) ∧ K (ys.any fun y => eqD y (topD S a))) ∨ (((dv S a).isSome = true ∧ isStrs ys = true) ∧ K false)
  | none => match dv S b with
    | some kvs => match keyD a with
      | some k => K (getK kvs k).isSome
      | none => False
    | none => match dv2 S b with
      | some kvs => match keyD2 a with
        | some k => K (getK kvs k).isSome
        | none => False
      | none => match a, b with
        | .str i, .str j => K (!(Builtin.Str.occurrences j i 0 j.length 1).isEmpty)
        | _, _ => False

noncomputable def ltS (x y : Str) : Bool := decide (x.cps.toList < y.cps.toList)
noncomputable def wpCmp (o : COp) : W2 := fun a b S Q => match o with
  | .eq => ((plainN 60 (topD S a) = true ∧ plainN 60 (topD S b) = true) ∧ Q (.bl (eqD (topD S a) (topD S b))) S) ∨ ((plainN 60 (resD 8 S a) = true ∧ plainN 60 (resD 8 S b) = true) ∧ Q (.bl (eqD (resD 8 S a) (resD 8 S b))) S) ∨ ∃ r, dctEq S a b = some r ∧ Q (.bl r) S
  | .ne => ((plainN 60 (topD S a) = true ∧ plainN 60 (topD S b) = true) ∧ Q (.bl (!eqD (topD S a) (topD S b))) S) ∨ ((plainN 60 (resD 8 S a) = true ∧ plainN 60 (resD 8 S b) = true) ∧ Q (.bl (!eqD (resD 8 S a) (resD 8 S b))) S) ∨ ∃ r, dctEq S a b = some r ∧ Q (.bl (!r)) S
  | .lt => match a, b with
    | .int i, .int j => Q (.bl (decide (i < j))) S
    | .str x, .str y => Q (.bl (ltS x y)) S
    | _, _ => False
  | .le => match a, b with
    | .int i, .int j => Q (.bl (decide (i ≤ j))) S
    | _, _ => False
  | .gt => match a, b with
    | .int i, .int j => Q (.bl (decide (j < i))) S
    | _, _ => False
  | .ge => match a, b with
    | .int i, .int j => Q (.bl (decide (j ≤ i))) S
    | _, _ => False
  | .isin => inC a b S fun c => Q (.bl c) S
  | .notin => inC a b S fun c => Q (.bl (!c)) S
  | .is_ => match b with
    | .non => Q (.bl (isNo a)) S
    | .bl c => match a with
      | .bl d => Q (.bl (d == c)) S
      | _ => False
    | _ => False
  | .isnot => match b with
    | .non => Q (.bl (!isNo a)) S
    | .bl c => match a with
      | .bl d => Q (.bl (!(d == c))) S
      | _ => False
    | _ => False
noncomputable def wpIdx : W2 := fun a i S Q => match sv S a with
  | some ds => match i with
    | .int i => match atI ds i with
      | some d => Q d S
      | none => False
    | _ => False
  | none => match dv S a with
    | some kvs => match keyD i with
      | some k => match getK kvs k with
        | some d => Q d S
        | none => False
      | none => False
    | none => match dv2 S a with
      | some kvs => match keyD2 i with
        | some k => match getK kvs k with
          | some d => Q d S
          | none => False
        | none => False
      | none => match a, i with
        | .str x, .int i => match atI x.cps.toList i with
          | some c => Line x.length ∧ Q (.str ⟨#[c]⟩) S
          | none => False
        | _, _ => False

noncomputable def wpPut (a i d : D) (S : Sto) (K : Sto → Prop) : Prop := match a with
  | .ref p => match S p with
    | some (.lst xs) => match i with
      | .int j => match ixN xs.length j with
        | some n => K (S.set p (.lst (xs.set n d)))
        | none => False
      | _ => False
    | some (.dct kvs) => match keyD i with
      | some k => kvs.length < 16000000 ∧ K (S.set p (.dct (putD kvs k d)))
      | none => False
    | some (.dc2 kvs) => match keyD2 i with
      | some k => kvs.length < 16000000 ∧ K (S.set p (.dc2 (putD kvs k d)))
      | none => False
    | _ => False
  | _ => False

noncomputable def putFD (f : Str) (d : D) : List (Str × D) → List (Str × D)
  | [] => [(f, d)]
  | (g, e) :: r => if g = f then (f, d) :: r else (g, e) :: putFD f d r

noncomputable def wpFld (P : Pg) (x : Str) (a : D) (S : Sto) (Q : PoE) : Prop := match iv S a with
  | some (k, fs) => x ∈ P.flds k ∧ match fs.lookup x with
    | some d => Q d S
    | none => False
  | none => False
noncomputable def wpFset (P : Pg) (x : Str) (a d : D) (S : Sto) (K : Sto → Prop) : Prop := match a with
  | .ref p => match S p with
    | some (.ins k fs) => (x ∈ P.flds k ∧ fs.length < 900) ∧ K (S.set p (.ins k (putFD x d fs)))
    | _ => False
  | _ => False

noncomputable def allBl : List D → Option (List Bool)
  | [] => some []
  | .bl b :: r => match allBl r with
    | some c => some (b :: c)
    | none => none
  | _ :: _ => none
noncomputable def intsOf : List D → Option (List Int)
  | [] => some []
  | .int i :: r => match intsOf r with
    | some ns => some (i :: ns)
    | none => none
  | _ :: _ => none
noncomputable def strsOf : List D → Option (List Str)
  | [] => some []
  | .str x :: r => match strsOf r with
    | some ys => some (x :: ys)
    | none => none
  | _ :: _ => none

noncomputable def tyD (S : Sto) : D → Option String
  | .non => some "NoneType"
  | .bl _ => some "bool"
  | .int _ => some "int"
  | .str _ => some "str"
  | .tup _ => some "tuple"
  | .lst _ => some "list"
  | .scr _ => some "list"
  | .dct _ _ => some "dict"
  | .dc2 _ _ => some "dict"
  | .ref p => match S p with
    | some (.lst _) => some "list"
    | some (.dct _) => some "dict"
    | some (.dc2 _) => some "dict"
    | _ => none
  | _ => none

noncomputable def icD (S : Sto) : D → Option Nat
  | .ins k _ _ => some k
  | .ref p => match S p with
    | some (.ins k _) => some k
    | _ => none
  | _ => none
inductive Cl where
  | ty (n : String) | cls (k : Nat)
section
variable (P : Pg)
noncomputable def clsOf1 : D → Option Cl
  | .ty n => if n ∈ ["int", "bool", "str", "list", "tuple", "dict"] then some (.ty n) else none
  | .cls k => if k < P.ncl then some (.cls k) else none
  | _ => none
noncomputable def clsOfs : List D → Option (List Cl)
  | [] => some []
  | d :: r => match clsOf1 P d, clsOfs r with
    | some n, some ns => some (n :: ns)
    | _, _ => none
noncomputable def clsOf : D → Option (List Cl)
  | .tup ds => clsOfs P ds
  | d => match clsOf1 P d with
    | some n => some [n]
    | none => none
noncomputable def isSub (t u : String) : Bool := t == u || (t == "bool" && u == "int")
noncomputable def isT (t : String) : Cl → Bool
  | .ty u => isSub t u
  | .cls _ => false
noncomputable def isC (k : Nat) : Cl → Bool
  | .ty _ => false
  | .cls c => P.sub k c

noncomputable def clsX1 : D → Option Cl
  | .ty n => if n = "ValueError" then some (.ty n) else none
  | .cls k => if P.exc k = true then some (.cls k) else none
  | _ => none
noncomputable def clsXs : List D → Option (List Cl)
  | [] => some []
  | d :: r => match clsX1 P d, clsXs r with
    | some n, some ns => some (n :: ns)
    | _, _ => none
noncomputable def clsX : D → Option (List Cl)
  | .tup ds => clsXs P ds
  | d => match clsX1 P d with
    | some n => some [n]
    | none => none
noncomputable def isX (k : Nat) : Cl → Bool
  | .ty u => u == "ValueError"
  | .cls c => P.sub k c
noncomputable def tyI (S : Sto) (x : D) : Option String := match x with
  | .dc2 _ _ => none
  | x => tyD S x
noncomputable def isiD (S : Sto) (x : D) (us : List Cl) : Option Bool := match tyI S x with
  | some t => some (us.any (isT t))
  | none => match icD S x with
    | some k => if (P.ini k).isSome = true then some (us.any (isC P k)) else none
    | none => none
end
mutual
noncomputable def pyD : D → Option PyData
  | .non => some .none
  | .bl b => some (.bool b)
  | .int i => some (.int i)
  | .str x => some (.str x)
  | .tup xs => match pyDs xs with
    | some ps => some (.tuple ps)
    | none => none
  | .lst xs => match pyDs xs with
    | some ps => some (.list ps)
    | none => none
  | .dct ks vs => match pyDs vs with
    | some ps => some (.dict ((ks.map fun k => match k with
      | .inl i => PyData.int i
      | .inr x => PyData.str x).zip ps))
    | none => none
  | _ => none
noncomputable def pyDs : List D → Option (List PyData)
  | [] => some []
  | x :: xs => match pyD x, pyDs xs with
    | some p, some ps => some (p :: ps)
    | _, _ => none
end
noncomputable def sortS (xs : List Str) : List Str := xs.mergeSort fun a b => !ltS b a
noncomputable def sortI (xs : List Int) : List Int := xs.mergeSort fun a b => decide (a ≤ b)
noncomputable def pairsD : List D → Option (List (Key × D))
  | [] => some []
  | .tup [k, v] :: r => match keyD k, pairsD r with
    | some k, some ps => some ((k, v) :: ps)
    | _, _ => none
  | _ :: _ => none

noncomputable def pairsF : List D → Option (List (Key × D))
  | [] => some []
  | k :: v :: r => match keyD k, pairsF r with
    | some k, some ps => some ((k, v) :: ps)
    | _, _ => none
  | _ => none
noncomputable def sOfKeys : List Key → Option (List Str)
  | [] => some []
  | .inr x :: r => match sOfKeys r with
    | some xs => some (x :: xs)
    | none => none
  | _ :: _ => none

noncomputable def sortedK (xs : List D) (K : List D → Prop) : Prop := match strsOf xs with
  | some ss => ss.length < 64 ∧ K ((sortS ss).map .str)
  | none => match intsOf xs with
    | some ns => ns.length < 64 ∧ K ((sortI ns).map .int)
    | none => False

noncomputable def dedup {α : Type} [DecidableEq α] : List α → List α
  | [] => []
  | x :: xs => if x ∈ xs then dedup xs else x :: dedup xs
noncomputable def minI : List Int → Option Int
  | [] => none
  | x :: xs => some (xs.foldl min x)
noncomputable def maxI : List Int → Option Int
  | [] => none
  | x :: xs => some (xs.foldl max x)
noncomputable def rngD (a : Int) (n : Nat) : List D := (List.range n).map fun (i : Nat) => .int (a + i)

noncomputable def minSt : List Str → Option Str
  | [] => none
  | x :: r => some (r.foldl (fun a y => if ltS y a = true then y else a) x)
noncomputable def wpB (P : Pg) (f : Bf) (fz : Bool) : WB := fun ds S Q => match f with
  | .len => match ds with
    | [x] => match sv S x with
      | some xs => Q (.int xs.length) S
      | none => match dv S x with
        | some kvs => Q (.int kvs.length) S
        | none => match dv2 S x with
          | some kvs => Q (.int kvs.length) S
          | none => match x with
            | .str z => Line z.length ∧ Q (.int z.length) S
            | _ => False
    | _ => False
  | .abs => match ds with
    | [.int i] => Q (.int i.natAbs) S
    | _ => False
  | .int => match ds with
    | [.int i] => Q (.int i) S
    | [.bl b] => Q (.int (b2I b)) S
    | [.str x] => match PySem.intText? x with
      | some n => x.length ≤ 640 ∧ Q (.int n) S
      | none => False
    | _ => False
  | .max => match ds with
    | [.int i, .int j] => Q (.int (max i j)) S
    | _ => False
  | .min => match ds with
    | [.int i, .int j] => Q (.int (min i j)) S
    | _ => False
  | .minl => match ds with
    | [x] => match lv S x with
      | some xs => match intsOf xs with
        | some ns => match minI ns with
          | some n => Q (.int n) S
          | none => False
        | none => match strsOf xs with
          | some ss => match minSt ss with
            | some z => Q (.str z) S
            | none => False
          | none => False
      | none => False
    | _ => False
  | .maxl => match ds with
    | [x] => match sv S x with
      | some xs => match intsOf xs with
        | some ns => match maxI ns with
          | some n => Q (.int n) S
          | none => False
        | none => False
      | none => False
    | _ => False
  | .divmod => match ds with
    | [.int i, .int j] => Dvs j ∧ Q (.tup [.int (i / j), .int (i % j)]) S
    | _ => False
  | .repr => match ds with
    | [x] => match pyD (topD S x) with
      | some p => (p.showable = true ∧ Line p.shown.length ∧ p.depth ≤ 20) ∧ Q (.str p.shown) S
      | none => match pyD (resD 8 S x) with
        | some p => (p.showable = true ∧ Line p.shown.length ∧ p.depth ≤ 20) ∧ Q (.str p.shown) S
        | none => False
    | _ => False
  | .str => match ds with
    | [.int i] => i.natAbs < 2 ^ 1900 ∧ Q (.str (toString i)) S
    | [.str x] => Q (.str x) S
    | _ => False
  | .all => match ds with
    | [x] => match lv S x with
      | some xs => match allBl xs with
        | some bs => Q (.bl (bs.all id)) S
        | none => False
      | none => False
    | _ => False
  | .any => match ds with
    | [x] => match lv S x with
      | some xs => match allBl xs with
        | some bs => Q (.bl (bs.any id)) S
        | none => False
      | none => False
    | _ => False
  | .list => match ds with
    | [x] => match sv S x with
      | some xs => newL fz xs S Q
      | none => match dv S x with
        | some kvs => newL fz (kvs.map fun kv => dKey kv.1) S Q
        | none => match dv2 S x with
          | some kvs => newL fz (kvs.map fun kv => dKey2 kv.1) S Q
          | none => False
    | _ => False
  | .tuple => match ds with
    | [x] => match sv S x with
      | some xs => (keyish xs = false) ∧ Q (.tup xs) S
      | none => False
    | _ => False
  | .sum => match ds with
    | [x] => match lv S x with
      | some xs => match intsOf xs with
        | some ns => Q (.int ns.sum) S
        | none => False
      | none => False
    | _ => False
  | .isi => match ds with
    | [x, c] => match clsOf P c with
      | some us => match isiD P S x us with
        | some b => Q (.bl b) S
        | none => False
      | none => False
    | _ => False
  | .dict => match ds with
    | [x] => match dv S x with
      | some kvs => newO (.dct kvs) S Q
      | none => match lv S x with
        | some xs => match pairsD xs with
          | some ps => newO (.dct (mergeD [] ps)) S Q
          | none => False
        | none => False
    | _ => False
  | .sorted => match ds with
    | [x] => match lv S x with
      | some xs => sortedK xs fun ys => newL fz ys S Q
      | none => match dv S x with
        | some kvs => match sOfKeys (kvs.map (·.1)) with
          | some ss => ss.length < 64 ∧ newL fz ((sortS ss).map .str) S Q
          | none => False
        | none => False
    | _ => False
  | .lenset => match ds with
    | [x] => match lv S x with
      | some xs => match strsOf xs with
        | some ss => ss.length < 64 ∧ Q (.int (dedup ss).length) S
        | none => False
      | none => False
    | _ => False
  | .lrng => match ds with
    | [.int j] => (0 ≤ j ∧ j ≤ 1000000) ∧ newL fz (rngD 0 j.toNat) S Q
    | _ => False
  | .lrev => match ds with
    | [x] => match lv S x with
      | some xs => newL fz xs.reverse S Q
      | none => False
    | _ => False
  | .lvals => match ds with
    | [x] => match dv S x with
      | some kvs => newL fz (kvs.map (·.2)) S Q
      | none => False
    | _ => False
  | .litems => match ds with
    | [x] => match dv S x with
      | some kvs => newL fz (kvs.map fun kv => .tup [dKey kv.1, kv.2]) S Q
      | none => False
    | _ => False
  | .sitems => match ds with
    | [x] => match dv S x with
      | some kvs => match sOfKeys (kvs.map (·.1)) with
        | some ss => (ss.length < 64 ∧ ss.Nodup) ∧ newL fz (((ss.zip (kvs.map (·.2))).mergeSort fun a b => !ltS b.1 a.1).map fun kv => .tup [.str kv.1, kv.2]) S Q
        | none => False
      | none => False
    | _ => False
  | .sortset => match ds with
    | [x] => match lv S x with
      | some xs => match strsOf xs with
        | some ss => (ss.length < 4000 ∧ (dedup ss).length < 64) ∧ newL fz ((sortS (dedup ss)).map .str) S Q
        | none => False
      | none => False
    | _ => False

noncomputable def Bm.ty : Bm → String
  | .join | .split | .partition | .startswith | .endswith | .upper | .count | .isdigit | .lstrip => "str"
  | .get | .get1 | .setdefault | .dpop | .dclear | .keys | .values | .items => "dict"
  | _ => "list"

noncomputable def onL (S : Sto) (x : D) (K : Addr → List D → Prop) : Prop := match x with
  | .ref p => match S p with
    | some (.lst xs) => K p xs
    | _ => False
  | _ => False
noncomputable def onD (S : Sto) (x : D) (K : Addr → List (Key × D) → Prop) : Prop := match x with
  | .ref p => match S p with
    | some (.dct kvs) => K p kvs
    | _ => False
  | _ => False
noncomputable def wpM (m : Bm) (fz : Bool) (x : D) (ds : List D) (S : Sto) (Q : PoE) : Prop := match m with
  | .append => match ds with
    | [d] => onL S x fun p xs => xs.length < 16000000 ∧ Q .non (S.set p (.lst (xs ++ [d])))
    | _ => False
  | .pop => match ds with
    | [] => onL S x fun p xs => match xs[xs.length - 1]? with
      | some d => Q d (S.set p (.lst xs.dropLast))
      | none => False
    | _ => False
  | .popAt => match ds with
    | [.int i] => onL S x fun p xs => match ixN xs.length i with
      | some k => match xs[k]? with
        | some d => (-(2 ^ 62) ≤ i ∧ i < 2 ^ 62) ∧ Q d (S.set p (.lst (xs.eraseIdx k)))
        | none => False
      | none => False
    | _ => False
  | .extend => match ds with
    | [y] => onL S x fun p xs => match lv S y with
      | some ys => Line (xs.length + ys.length) ∧ Q .non (S.set p (.lst (xs ++ ys)))
      | none => False
    | _ => False
  | .reverse => match ds with
    | [] => onL S x fun p xs => Q .non (S.set p (.lst xs.reverse))
    | _ => False
  | .clear => match ds with
    | [] => onL S x fun p _ => Q .non (S.set p (.lst []))
    | _ => False
  | .insert => match ds with
    | [.int i, d] => onL S x fun p xs => (0 ≤ i ∧ i < 2 ^ 62 ∧ xs.length < 16000000) ∧ Q .non (S.set p (.lst (xs.take i.toNat ++ [d] ++ xs.drop i.toNat)))
    | _ => False
  | .remove => match ds with
    | [.str z] => onL S x fun p xs => match strsOf xs with
      | some ss => match ss.idxOf? z with
        | some k => Q .non (S.set p (.lst ((ss.eraseIdx k).map .str)))
        | none => False
      | none => False
    | [.int z] => onL S x fun p xs => match intsOf xs with
      | some ns => match ns.idxOf? z with
        | some k => Q .non (S.set p (.lst ((ns.eraseIdx k).map .int)))
        | none => False
      | none => False
    | _ => False
  | .index => match ds with
    | [.str z] => match lv S x with
      | some xs => match strsOf xs with
        | some ss => match ss.idxOf? z with
          | some k => Q (.int k) S
          | none => False
        | none => False
      | none => False
    | [.int z] => match lv S x with
      | some xs => match intsOf xs with
        | some ns => match ns.idxOf? z with
          | some k => Q (.int k) S
          | none => False
        | none => False
      | none => False
    | _ => False
  | .startswith => match x, ds with
    | .str a, [.str b] => Q (.bl (Txt.startswith a b)) S
    | _, _ => False
  | .endswith => match x, ds with
    | .str a, [.str b] => Q (.bl (Txt.endswith a b)) S
    | _, _ => False
  | .upper => match x, ds with
    | .str a, [] => (a.length ≤ 5000000 ∧ sok (Txt.upper a)) ∧ Q (.str (Txt.upper a)) S
    | _, _ => False
  | .isdigit => match x, ds with
    | .str a, [] => Q (.bl (Txt.isdigit a)) S
    | _, _ => False
  | .count => match x, ds with
    | .str a, [.str b] => Q (.int (Txt.count a b)) S
    | _, _ => False
  | .partition => match x, ds with
    | .str a, [.str b] => (b.length ≠ 0 ∧ Line a.length ∧ sok (Txt.partition a b).1 ∧ sok (Txt.partition a b).2.1 ∧ sok (Txt.partition a b).2.2) ∧ Q (.tup [.str (Txt.partition a b).1, .str (Txt.partition a b).2.1, .str (Txt.partition a b).2.2]) S
    | _, _ => False
  | .split => match x, ds with
    | .str a, [.str b] => (b.length ≠ 0 ∧ Line a.length ∧ ∀ y ∈ Txt.split a b, sok y) ∧ newL fz ((Txt.split a b).map .str) S Q
    | _, _ => False
  | .join => match x, ds with
    | .str a, [y] => match lv S y with
      | some xs => match strsOf xs with
        | some ys => Line ((ys.map (·.length)).sum + ys.length * a.length) ∧ Q (.str (Txt.join a ys)) S
        | none => False
      | none => False
    | _, _ => False
  | .get => match ds with
    | [k, d] => match dv S x with
      | some kvs => match keyD k with
        | some k => Q ((getK kvs k).getD d) S
        | none => False
      | none => match dv2 S x with
        | some kvs => match keyD2 k with
          | some k => Q ((getK kvs k).getD d) S
          | none => False
        | none => False
    | _ => False
  | .get1 => match ds with
    | [k] => match dv S x with
      | some kvs => match keyD k with
        | some k => Q ((getK kvs k).getD .non) S
        | none => False
      | none => False
    | _ => False
  | .dpop => match ds with
    | [k] => onD S x fun p kvs => match keyD k with
      | some k => match getK kvs k with
        | some d => Q d (S.set p (.dct (kvs.filter fun kv => decide (kv.1 ≠ k))))
        | none => False
      | none => False
    | _ => False
  | .dclear => match ds with
    | [] => onD S x fun p _ => Q .non (S.set p (.dct []))
    | _ => False
  | _ => False

noncomputable def cutD {α : Type} (xs : List α) (lo hi : Option Int) : List α := (xs.drop (HT.sIx xs.length 0 lo)).take (HT.sIx xs.length xs.length hi - HT.sIx xs.length 0 lo)
noncomputable def wpSl (fz : Bool) (x : D) (lo hi : Option Int) (S : Sto) (Q : PoE) : Prop := match x with
  | .tup xs => (keyish (cutD xs lo hi) = false) ∧ Q (.tup (cutD xs lo hi)) S
  | .str z => Line z.length ∧ Q (.str (cutS z lo hi)) S
  | x => match lv S x with
    | some xs => newL fz (cutD xs lo hi) S Q
    | none => False

mutual
noncomputable def bindG : Tg → D → Fr → Option Fr
  | .nm i, d, fr => some (fr.set i (some d))
  | .tp ts, d, fr => match d with
    | .tup ds => bindGs ts ds fr
    | _ => none
noncomputable def bindGs : Tgs → List D → Fr → Option Fr
  | .nil, ds, fr => match ds with
    | [] => some fr
    | _ => none
  | .cons t ts, ds, fr => match ds with
    | d :: r => match bindG t d fr with
      | some fr' => bindGs ts r fr'
      | none => none
    | [] => none
end
structure Wk where
  g : Sto → Prop
  ds : List D
  bk : Sto → Sto
noncomputable def wkV (ds : List D) : Wk := ⟨fun _ => True, ds, id⟩
noncomputable def wkL (p : Addr) (ds : List D) : Wk := ⟨fun S => S p = some (.lst ds), ds, id⟩
noncomputable def wkD (p : Addr) (o : O) (ds : List D) : Wk := ⟨fun _ => True, ds, fun S => S.set p o⟩
noncomputable abbrev WSb := Fr → Sto → Po → Prop
noncomputable def forW (tg : Tg) (b : WSb) (g : Sto → Prop) : List D → Fr → Sto → Po → Prop
  | [], fr, S, P => g S ∧ P.nx fr S
  | d :: r, fr, S, P => g S ∧ match bindG tg d fr with
    | none => False
    | some fr2 => b fr2 S { nx := fun fr' S' => forW tg b g r fr' S' P, rt := P.rt, bk := P.nx, ct := fun fr' S' => forW tg b g r fr' S' P, xc := P.xc }
noncomputable def Po.behind (P : Po) (f : Sto → Sto) : Po := ⟨fun fr S => P.nx fr (f S), fun d S => P.rt d (f S), fun fr S => P.bk fr (f S), fun fr S => P.ct fr (f S), P.xc⟩
noncomputable def whileW (t : WEx) (b : WSb) : Nat → Fr → Sto → Po → Prop
  | 0, _, _, _ => False
  | n + 1, fr, S, P => t fr S (fun d S3 => match d with
    | .bl true => b fr S3 { nx := fun fr' S' => whileW t b n fr' S' P, rt := P.rt, bk := P.nx, ct := fun fr' S' => whileW t b n fr' S' P, xc := P.xc }
    | .bl false => P.nx fr S3
    | _ => False) (fun x S3 => P.xc x fr S3)
noncomputable def noX : PoX := fun _ _ => False

noncomputable def compW (tg : Tg) (own : List Nat) (ts e : WEx) (g : Sto → Prop) : List D → List D → Fr → Sto → PoL → Prop
  | [], acc, _, S, K => g S ∧ K acc S
  | d :: r, acc, fr, S, K => g S ∧ match bindG tg d (wipeD fr own) with
    | none => False
    | some fr2 => ts fr2 S (fun x S3 => match x with
      | .bl true => e fr2 S3 (fun y S4 => acc.length < 16000000 ∧ compW tg own ts e g r (acc ++ [y]) fr S4 K) noX
      | .bl false => compW tg own ts e g r acc fr S3 K
      | _ => False) noX
noncomputable def pick {α : Type} (pt : List Nat) (l : List α) : List α := pt.filterMap fun j => l[j]?
noncomputable def zipD : List D → List D → List D
  | x :: xs, y :: ys => .tup [x, y] :: zipD xs ys
  | _, _ => []
noncomputable def enmD : Nat → List D → List D
  | _, [] => []
  | n, x :: xs => .tup [.int n, x] :: enmD (n + 1) xs
noncomputable def walkD (w : Dw) (kvs : List (Key × D)) : List D := match w with
  | .keys => kvs.map fun kv => dKey kv.1
  | .values => kvs.map fun kv => kv.2
  | .items => kvs.map fun kv => .tup [dKey kv.1, kv.2]
noncomputable def walkD2 (w : Dw) (kvs : List ((Int × Str) × D)) : List D := match w with
  | .keys => kvs.map fun kv => dKey2 kv.1
  | .values => kvs.map fun kv => kv.2
  | .items => kvs.map fun kv => .tup [dKey2 kv.1, kv.2]
noncomputable def chars (x : Str) : List D := x.cps.toList.map fun c => .str ⟨#[c]⟩

noncomputable def wkSeq (S : Sto) (x : D) : Option Wk := match x with
  | .tup ds => some (wkV ds)
  | .lst ds => some (wkV ds)
  | .scr ds => some (wkV ds)
  | .ref p => match S p with
    | some (.lst ds) => some (wkL p ds)
    | _ => none
  | _ => none

noncomputable def Wk.and (a b : Wk) (f : List D → List D → List D) : Wk := ⟨fun S => a.g S ∧ b.g S, f a.ds b.ds, id⟩
noncomputable def Wk.map (a : Wk) (f : List D → List D) : Wk := ⟨a.g, f a.ds, a.bk⟩

noncomputable def pathD : IE → Fr → Sto → Option D
  | .var i, fr, _ => match fr[i]? with
    | some (some d) => some d
    | _ => none
  | .fld o x, fr, S => match pathD o fr S with
    | some a => match iv S a with
      | some (_, fs) => fs.lookup x
      | none => none
    | none => none
  | _, _, _ => none

noncomputable abbrev CallF := Nat → List D → Option Exc → Sto → PoE → PoX → Prop

noncomputable def eqOk (P : Pg) (S : Sto) (c : Nat) (b : D) : Bool := match tyI S b with
  | some _ => true
  | none => match icD S b with
    | some k => (P.ini k).isSome && decide (k < P.ncl) && (!P.sub k c || k == c)
    | none => false
noncomputable def wpOeq (C : CallF) (P : Pg) : W2 := fun a b S Q => match icD S a with
  | some c => match P.mth c "__eq__" with
    | some k => (c < P.ncl ∧ eqOk P S c b = true) ∧ C k [a, b] none S (fun d S' => (∃ r, d = .bl r) ∧ Q d S') noX
    | none => False
  | none => wpCmp .eq a b S Q

noncomputable def lftOk (S : Sto) (a : D) : Bool := match tyI S a with
  | some t => decide (t ∈ ["NoneType", "int", "str", "list", "tuple"])
  | none => false

noncomputable def wpOcmp (C : CallF) (P : Pg) (neg : Bool) : W2 := fun a b S Q => match icD S a with
  | some c => match P.mth c "__eq__" with
    | some k => (c < P.ncl ∧ eqOk P S c b = true) ∧ C k [a, b] none S (fun d S' => ∃ r, d = .bl r ∧ Q (.bl (r != neg)) S') noX
    | none => False
  | none => match icD S b with
    | some c => match P.mth c "__eq__" with
      | some k => (c < P.ncl ∧ lftOk S a = true) ∧ C k [b, a] none S (fun d S' => ∃ r, d = .bl r ∧ Q (.bl (r != neg)) S') noX
      | none => False
    | none => wpCmp (if neg then .ne else .eq) a b S Q

noncomputable def wpOsp (C : CallF) (P : Pg) (r : Bool) : WB := fun ds S Q => match ds with
  | [a] => match icD S a with
    | some c => match P.mth c (if r then "__repr__" else "__len__") with
      | some k => C k [a] none S (fun d S' => (if r = true then ∃ z, d = .str z else ∃ n : Int, d = .int n ∧ 0 ≤ n ∧ n < 2 ^ 63) ∧ Q d S') noX
      | none => False
    | none => wpB P (if r then .repr else .len) true [a] S Q
  | _ => False
section
variable (C : CallF) (P : Pg) (ex : Option Exc)
mutual
noncomputable def wpE : IE → Fr → Sto → PoE → PoX → Prop
  | .var i, fr, S, Q, _ => match fr[i]? with
    | some (some d) => Q d S
    | _ => False
  | .cst d, _, S, Q, _ => Q d S
  | .fnv k, _, S, Q, _ => Q (.fn k) S
  | .clv k, _, S, Q, _ => Q (.cls k) S
  | .gc j, _, S, Q, _ => match P.gcs[j]? with
    | some (_, d) => Q d S
    | none => False
  | .tyv n, _, S, Q, _ => Q (.ty n) S
  | .met m fz o es, fr, S, Q, E => wpE o fr S (fun x S1 => tyD S1 x = some m.ty ∧ wpEs es fr S1 (fun ds S2 => wpM m fz x ds S2 Q) E) E
  | .slc fz o l lo h hi, fr, S, Q, E => wpE o fr S (fun x S1 =>
      if l = true then wpE lo fr S1 (fun i S2 => match i with
        | .int i => if h = true then wpE hi fr S2 (fun j S3 => match j with
            | .int j => wpSl fz x (some i) (some j) S3 Q
            | _ => False) E else wpSl fz x (some i) none S2 Q
        | _ => False) E
      else if h = true then wpE hi fr S1 (fun j S3 => match j with
            | .int j => wpSl fz x none (some j) S3 Q
            | _ => False) E else wpSl fz x none none S1 Q) E
  | .rvs fz o, fr, S, Q, E => wpE o fr S (fun x S1 => match lv S1 x with
    | some xs => newL fz xs.reverse S1 Q
    | none => False) E
  | .gidx j e, fr, S, Q, E => match P.gcs[j]? with
    | some (_, .tup ds) => wpE e fr S (fun y S1 => match y with
      | .str z => match strsOf ds with
        | some ss => match ss.idxOf? z with
          | some k => Q (.int k) S1
          | none => False
        | none => False
      | _ => False) E
    | _ => False
  | .chain o1 o2 a b c, fr, S, Q, E => wpE a fr S (fun x S1 => wpE b fr S1 (fun y S2 => wpCmp o1 x y S2 (fun r S3 => match r with
      | .bl true => wpE c fr S3 (fun z S4 => wpCmp o2 y z S4 Q) E
      | .bl false => Q (.bl false) S3
      | _ => False)) E) E
  | .bin o fz a b, fr, S, Q, E => wpE a fr S (fun x S1 => wpE b fr S1 (fun y S2 => wpBin o fz x y S2 Q) E) E
  | .neg a, fr, S, Q, E => wpE a fr S (fun x S1 => match x with
    | .int i => Q (.int (-i)) S1
    | _ => False) E
  | .nt a, fr, S, Q, E => wpE a fr S (fun x S1 => match x with
    | .bl b => Q (.bl (!b)) S1
    | _ => False) E
  | .cmp o a b, fr, S, Q, E => wpE a fr S (fun x S1 => wpE b fr S1 (fun y S2 => wpCmp o x y S2 Q) E) E
  | .conj es, fr, S, Q, E => wpConj es fr S Q E
  | .disj es, fr, S, Q, E => wpDisj es fr S Q E
  | .ite t a b, fr, S, Q, E => wpE t fr S (fun x S1 => match x with
    | .bl true => wpE a fr S1 Q E
    | .bl false => wpE b fr S1 Q E
    | _ => False) E
  | .tup es, fr, S, Q, E => wpEs es fr S (fun ds S1 => ds.length ≤ 1000 ∧ Q (.tup ds) S1) E
  | .lst fz es, fr, S, Q, E => wpEs es fr S (fun ds S1 => ds.length ≤ 1000 ∧ newL fz ds S1 Q) E
  | .dsp t2 es, fr, S, Q, E => wpEs es fr S (fun ds S1 => if t2 = true then match ds with
      | [k, v] => match keyD2 k with
        | some k => newO (.dc2 [(k, v)]) S1 Q
        | none => False
      | [] => newO (.dc2 []) S1 Q
      | _ => False
    else match pairsF ds with
      | some kvs => kvs.length ≤ 15 ∧ newO (.dct (mergeD [] kvs)) S1 Q
      | none => False) E
  | .idx a i, fr, S, Q, E => wpE a fr S (fun x S1 => wpE i fr S1 (fun y S2 => wpIdx x y S2 Q) E) E
  | .fld o x, fr, S, Q, E => wpE o fr S (fun a S1 => wpFld P x a S1 Q) E
  | .call k es, fr, S, Q, E => wpEs es fr S (fun ds S1 => C k ds none S1 Q E) E
  | .callk k nm pt dv es ks, fr, S, Q, E => wpEs es fr S (fun ds S1 => wpEs ks fr S1 (fun zs S2 => (ds.length = es.len ∧ zs.length = nm.length) ∧ C k (pick pt (ds ++ zs ++ dv)) none S2 Q E) E) E
  | .callv i es, fr, S, Q, E => match fr[i]? with
    | some (some (.fn k)) => wpEs es fr S (fun ds S1 => C k ds none S1 Q E) E
    | _ => False
  | .make c nm pt dv es ks, fr, S, Q, E => wpEs es fr S (fun ds S1 => wpEs ks fr S1 (fun zs S2 => (ds.length = es.len ∧ zs.length = nm.length) ∧ match P.ini c with
      | some k => ∀ p, S2 p = none → C k (.ref p :: pick pt (ds ++ zs ++ dv)) none (S2.set p (.ins c [])) (fun r S3 => r = .non ∧ Q (.ref p) S3) E
      | none => False) E) E
  | .mcl x nm pt dv o es ks, fr, S, Q, E => wpE o fr S (fun a S0 => match iv S0 a with
      | some (c, fs) => (c < P.ncl ∧ fs.lookup x = none) ∧ (match P.mth c x with
        | some k => wpEs es fr S0 (fun ds S1 => wpEs ks fr S1 (fun zs S2 => (ds.length = es.len ∧ zs.length = nm.length) ∧ C k (a :: pick pt (ds ++ zs ++ dv)) none S2 Q E) E) E
        | none => False)
      | none => False) E
  | .blt f fz es, fr, S, Q, E => wpEs es fr S (fun ds S1 => wpB P f fz ds S1 Q) E
  | .comp fz tg it ts e own, fr, S, Q, E => wpI it fr S (fun w S1 => compW tg own (wpTs ts) (wpE e) w.g w.ds [] fr S1 (fun acc S2 => newL fz acc (w.bk S2) Q)) E
  | .fst es, fr, S, Q, E => wpF es Str.empty fr S (fun x S1 => Q (.str x) S1) E
  | .frz e, fr, S, Q, E => wpE e fr S (fun x S1 => frzK x S1 Q) E
  | .frzo e, fr, S, Q, E => wpE e fr S (fun x S1 => frzA x S1 Q) E
  | .xis c, fr, S, Q, E => wpE c fr S (fun y S1 => match ex with
    | some x => match x.cls with
      | .cls k => P.exc k = true ∧ match clsX P y with
        | some us => Q (.bl (us.any (isX P k))) S1
        | none => False
      | _ => False
    | none => False) E
  | .xfd f, _, S, Q, _ => match ex with
    | some x => match x.cls with
      | .cls k => P.exc k = true ∧ match x.fs.lookup f with
        | some d => Q d S
        | none => False
      | _ => False
    | none => False
  | .cllx k es, fr, S, Q, E => wpEs es fr S (fun ds S1 => C k ds ex S1 Q noX) E
  | .ocmp neg a b, fr, S, Q, E => wpE a fr S (fun x S1 => wpE b fr S1 (fun y S2 => wpOcmp C P neg x y S2 Q) E) E
  | .oeq a b, fr, S, Q, E => wpE a fr S (fun x S1 => wpE b fr S1 (fun y S2 => wpOeq C P x y S2 Q) E) E
  | .osp r a, fr, S, Q, E => wpE a fr S (fun x S1 => wpOsp C P r [x] S1 Q) E
noncomputable def wpEs : IEs → Fr → Sto → PoL → PoX → Prop
  | .nil, _, S, Q, _ => Q [] S
  | .cons e es, fr, S, Q, E => wpE e fr S (fun d S1 => wpEs es fr S1 (fun ds S2 => Q (d :: ds) S2) E) E
noncomputable def wpConj : IEs → Fr → Sto → PoE → PoX → Prop
  | .nil, _, _, _, _ => False
  | .cons e es, fr, S, Q, E => match es with
    | .nil => wpE e fr S Q E
    | .cons e2 es2 => wpE e fr S (fun x S1 => match x with
      | .bl true => wpConj (.cons e2 es2) fr S1 Q E
      | .bl false => Q (.bl false) S1
      | _ => False) E
noncomputable def wpDisj : IEs → Fr → Sto → PoE → PoX → Prop
  | .nil, _, _, _, _ => False
  | .cons e es, fr, S, Q, E => match es with
    | .nil => wpE e fr S Q E
    | .cons e2 es2 => wpE e fr S (fun x S1 => match x with
      | .bl true => Q (.bl true) S1
      | .bl false => wpDisj (.cons e2 es2) fr S1 Q E
      | _ => False) E
noncomputable def wpTs : IEs → Fr → Sto → PoE → PoX → Prop
  | .nil, _, S, Q, _ => Q (.bl true) S
  | .cons e es, fr, S, Q, E => wpE e fr S (fun x S1 => match x with
    | .bl true => wpTs es fr S1 Q E
    | .bl false => Q (.bl false) S1
    | _ => False) E
noncomputable def wpF : IEs → Str → Fr → Sto → (Str → Sto → Prop) → PoX → Prop
  | .nil, acc, _, S, Q, _ => Q acc S
  | .cons e es, acc, fr, S, Q, E => wpE e fr S (fun x S1 => match x with
    | .str y => Line y.length ∧ Line (acc.length + y.length) ∧ wpF es (acc ++ y) fr S1 Q E
    | .int i => i.natAbs < 2 ^ 1900 ∧ Line (acc.length + (toString i : Str).length) ∧ wpF es (acc ++ (toString i : Str)) fr S1 Q E
    | _ => False) E
noncomputable def wpI : II → Fr → Sto → (Wk → Sto → Prop) → PoX → Prop
  | .rng1 e, fr, S, R, E => wpE e fr S (fun x S1 => match x with
    | .int j => (-(2 ^ 62) ≤ j ∧ j < 2 ^ 62) ∧ R (wkV (rngD 0 j.toNat)) S1
    | _ => False) E
  | .rng2 a b, fr, S, R, E => wpE a fr S (fun x S1 => wpE b fr S1 (fun y S2 => match x, y with
    | .int i, .int j => (-(2 ^ 62) ≤ i ∧ i < 2 ^ 62 ∧ -(2 ^ 62) ≤ j ∧ j < 2 ^ 62) ∧ R (wkV (rngD i (j - i).toNat)) S2
    | _, _ => False) E) E
  | .rng3 a b c, fr, S, R, E => wpE a fr S (fun x S1 => wpE b fr S1 (fun y S2 => wpE c fr S2 (fun z S3 => match x, y, z with
    | .int i, .int j, .int c => (0 ≤ i ∧ 0 ≤ j ∧ 0 < c ∧ i < 2 ^ 30 ∧ j < 2 ^ 30 ∧ c < 2 ^ 30) ∧ R (wkV ((List.range ((j - i + c - 1) / c).toNat).map fun (k : Nat) => .int (i + k * c))) S3
    | _, _, _ => False) E) E) E
  | .seq e, fr, S, R, E => wpE e fr S (fun x S1 => match wkSeq S1 x with
    | some w => R w S1
    | none => False) E
  | .txt e, fr, S, R, E => wpE e fr S (fun x S1 => match x with
    | .str z => Line z.length ∧ R (wkV (chars z)) S1
    | _ => False) E
  | .enm e, fr, S, R, E => wpE e fr S (fun x S1 => match wkSeq S1 x with
    | some w => R (w.map (enmD 0)) S1
    | none => False) E
  | .zip a b, fr, S, R, E => wpE a fr S (fun x S1 => wpE b fr S1 (fun y S2 => match x, y with
    | .tup xs, .tup ys => R (wkV (zipD xs ys)) S2
    | .tup _, _ => False
    | x, .tup ys => match wkSeq S2 x with
      | some w => R (w.and (wkV ys) zipD) S2
      | none => False
    | x, y => match wkSeq S2 x, wkSeq S2 y with
      | some w, some v => R (w.and v zipD) S2
      | _, _ => False) E) E
  | .rev e, fr, S, R, E => wpE e fr S (fun x S1 => match wkSeq S1 x with
    | some w => R (w.map List.reverse) S1
    | none => False) E
  | .dct w e, fr, S, R, E => wpE e fr S (fun x S1 => match x with
    | .dct ks vs => R (wkV (walkD w (ks.zip vs))) S1
    | .dc2 ks vs => w = .keys ∧ R (wkV (walkD2 w (ks.zip vs))) S1
    | _ => False) E
  | .lck w e, fr, S, R, E => match pathD e fr S with
    | some (.ref p) => match S p with
      | some (.dct kvs) => wpE e fr (S.del p) (fun d S1 => d = .ref p ∧ R (wkD p (.dct kvs) (walkD w kvs)) S1) E
      | _ => False
    | _ => False
end
end
section
variable (C : CallF) (P : Pg)
mutual
noncomputable def wpS (ex : Option Exc) : IS → Fr → Sto → Po → Prop
  | .asg i e, fr, S, Po => wpE C P ex e fr S (fun d S1 => Po.nx (fr.set i (some d)) S1) (fun x S1 => Po.xc x fr S1)
  | .asgc i e, fr, S, Po => wpE C P ex e fr S (fun d S1 => Po.nx (fr.set i (some d)) S1) (fun x S1 => Po.xc x fr S1)
  | .par i j a b, fr, S, Po => wpE C P ex a fr S (fun d S1 => wpE C P ex b fr S1 (fun d' S2 => Po.nx ((fr.set i (some d)).set j (some d')) S2) (fun x S2 => Po.xc x fr S2)) (fun x S1 => Po.xc x fr S1)
  | .asgt ts e, fr, S, Po => wpE C P ex e fr S (fun d S1 => match sv S1 d with
    | some ds => ds.length = ts.len ∧ wpAs ex ts ds fr S1 Po
    | none => False) (fun x S1 => Po.xc x fr S1)
  | .sub o i e, fr, S, Po => wpE C P ex e fr S (fun d S1 => wpE C P ex o fr S1 (fun x S2 => wpE C P ex i fr S2 (fun y S3 => wpPut x y d S3 fun S4 => Po.nx fr S4) (fun x S3 => Po.xc x fr S3)) (fun x S2 => Po.xc x fr S2)) (fun x S1 => Po.xc x fr S1)
  | .fset o f e, fr, S, Po => wpE C P ex e fr S (fun d S1 => wpE C P ex o fr S1 (fun x S2 => wpFset P f x d S2 fun S3 => Po.nx fr S3) (fun x S2 => Po.xc x fr S2)) (fun x S1 => Po.xc x fr S1)
  | .exp e, fr, S, Po => wpE C P ex e fr S (fun _ S1 => Po.nx fr S1) (fun x S1 => Po.xc x fr S1)
  | .ret e, fr, S, Po => wpE C P ex e fr S Po.rt (fun x S1 => Po.xc x fr S1)
  | .retn, _, S, Po => Po.rt .non S
  | .ifs t a b, fr, S, Po => wpE C P ex t fr S (fun d S1 => match d with
    | .bl true => wpSs ex a fr S1 Po
    | .bl false => wpSs ex b fr S1 Po
    | _ => False) (fun x S1 => Po.xc x fr S1)
  | .fors tg it b, fr, S, Po => wpI C P ex it fr S (fun w S1 => forW tg (wpSs ex b) w.g w.ds fr S1 (Po.behind w.bk)) (fun x S1 => Po.xc x fr S1)
  | .whil t b, fr, S, Po => ∃ n, whileW (wpE C P ex t) (wpSs ex b) n fr S Po
  | .rais k es, fr, S, Po => wpEs C P ex es fr S (fun ds S1 => ((P.xfs k = [] ∨ ds.length = (P.xfs k).length) ∧ ds.length ≤ 900) ∧ Po.xc ⟨.cls k, ((P.xfs k).zip ds).reverse⟩ fr S1) (fun x S1 => Po.xc x fr S1)
  | .raif k es, fr, S, Po => wpEs C P ex es fr S (fun ds S1 => ((P.xfs k = [] ∨ ds.length = (P.xfs k).length) ∧ ds.length ≤ 900) ∧ Po.xc ⟨.cls k, ((P.xfs k).zip ds).reverse⟩ fr S1) (fun x S1 => Po.xc x fr S1)
  | .tryo b hs, fr, S, Po => wpSs ex b fr S { nx := Po.nx, rt := Po.rt, bk := Po.bk, ct := Po.ct, xc := fun x fr' S' => wpHs ex hs x fr' S' Po }
  | .trye b hs el, fr, S, Po => wpSs ex b fr S { nx := fun fr' S' => wpSs ex el fr' S' Po, rt := Po.rt, bk := Po.bk, ct := Po.ct, xc := fun x fr' S' => wpHs ex hs x fr' S' Po }
  | .pass, fr, S, Po => Po.nx fr S
  | .frz i, fr, S, Po => match fr[i]? with
    | some (some (.ref p)) => match S p with
      | some o => Po.nx (fr.set i (some (frzO o))) (S.del p)
      | none => False
    | _ => False
noncomputable def wpSs (ex : Option Exc) : ISs → Fr → Sto → Po → Prop
  | .nil, fr, S, Po => Po.nx fr S
  | .cons s ss, fr, S, Po => wpS ex s fr S { nx := fun fr' S' => wpSs ex ss fr' S' Po, rt := Po.rt, bk := Po.bk, ct := Po.ct, xc := Po.xc }
noncomputable def wpHs (ex : Option Exc) : IHs → Exc → Fr → Sto → Po → Prop
  | .nil, x, fr, S, Po => Po.xc x fr S
  | .cons ks nm b r, x, fr, S, Po => match x.cls with
    | .cls j => P.exc j = true ∧ (if ks.any (fun k => P.sub j k) = true then (match nm with
        | none => wpSs ex b fr S { nx := Po.nx, rt := Po.rt, bk := Po.bk, ct := Po.ct, xc := fun _ _ _ => False }
        | some i => i < fr.length ∧ wpSs (some x) b (fr.set i none) S { nx := fun fr' S' => Po.nx (fr'.set i none) S', rt := Po.rt, bk := fun fr' S' => Po.bk (fr'.set i none) S', ct := fun fr' S' => Po.ct (fr'.set i none) S', xc := fun _ _ _ => False })
      else wpHs ex r x fr S Po)
    | _ => False
noncomputable def wpA (ex : Option Exc) : IT → D → Fr → Sto → Po → Prop
  | .nm i, d, fr, S, Po => Po.nx (fr.set i (some d)) S
  | .sub o i, d, fr, S, Po => wpE C P ex o fr S (fun x S2 => wpE C P ex i fr S2 (fun y S3 => wpPut x y d S3 fun S4 => Po.nx fr S4) (fun x S3 => Po.xc x fr S3)) (fun x S2 => Po.xc x fr S2)
noncomputable def wpAs (ex : Option Exc) : ITs → List D → Fr → Sto → Po → Prop
  | .nil, ds, fr, S, Po => match ds with
    | [] => Po.nx fr S
    | _ => False
  | .cons t ts, ds, fr, S, Po => match ds with
    | d :: r => wpA ex t d fr S { nx := fun fr' S' => wpAs ex ts r fr' S' Po, rt := Po.rt, bk := Po.bk, ct := Po.ct, xc := Po.xc }
    | [] => False
end
end

structure Fn where
  name : Str
  ps : List Str
  N : List Str
  kw : List (Nat × List Str × List Nat × List D) := []
  xa : Bool := false
  body : ISs
structure PD extends Pg where
  fns : List Fn
  cls : List Str := []
  gls : List Str := []
  blts : List Str
noncomputable def startD (n : Nat) (ds : List D) : Fr := ds.map some ++ List.replicate (n - ds.length) none
noncomputable def wpCall (P : PD) : Nat → CallF
  | 0, _, _, _, _, _, _ => False
  | n + 1, k, ds, ex, S, Q, E => match P.fns[k]? with
    | none => False
    | some f => (f.xa = ex.isSome ∧ ds.length + (if f.xa then 1 else 0) = f.ps.length) ∧ wpSs (wpCall P n) P.toPg ex f.body (if f.xa then none :: startD (f.N.length - 1) ds else startD f.N.length ds) S
      { nx := fun _ S' => ∃ S2, Sto.le S2 S' ∧ Q .non S2, rt := fun d S' => ∃ S2, Sto.le S2 S' ∧ Q d S2, xc := fun x _ S' => ∃ S2, Sto.le S2 S' ∧ E x S2 }
end L4

namespace L4
open PySem PySem.Spec PyProof.Rows L2
theorem line_ok {n : Nat} (h : Line n) : n ≤ sizeLine := by
  unfold Line at h
  rw [sizeLine_eq]
  omega
theorem lt_two_log {i : Int} {n : Nat} (h0 : 0 < n) (h : i.natAbs < 2 ^ n) : i.natAbs.log2 < n := PySem.Flt.log2_lt_of h0 h

theorem sok_all {x : Str} : sok x ↔ ∀ c ∈ x.cps.toList, c < 0x110000 := by
  unfold sok PyData.strOk
  rw [← Array.all_toList, List.all_eq_true]
  simp only [decide_eq_true_eq]
theorem sok_append {x y : Str} (h : sok x) (k : sok y) : sok (x ++ y) := by
  rw [sok_all] at h k ⊢
  intro c hc
  have : c ∈ x.cps.toList ++ y.cps.toList := by
    have e : (x ++ y).cps.toList = x.cps.toList ++ y.cps.toList := by
      show (x.cps ++ y.cps).toList = _
      simp
    rw [e] at hc; exact hc
  rcases List.mem_append.mp this with z | z
  · exact h c z
  · exact k c z
theorem sok_sub {x y : Str} (h : sok x) (k : ∀ c ∈ y.cps.toList, c ∈ x.cps.toList) : sok y := by
  rw [sok_all] at h ⊢
  exact fun c hc => h c (k c hc)
theorem sok_sign {x : Str} {c : Nat} (h : sok x) (k : c ∈ x.cps.toList) : sok ⟨#[c]⟩ := sok_sub h fun d hd => by
  have : d = c := by simpa using hd
  rw [this]; exact k

section
variable {G : Gd} {F : Addr → Prop} {S : Sto} {H : Hp} {d : D} {v : V} {ds : List D}
theorem lv_ok (rs : RS G ⟨F, S, H⟩) (r : Rp G ⟨F, S, H⟩ d v) (e : lv S d = some ds) : ∃ a vs, v = .ref a ∧ H a = some (.lst vs) ∧ Rps G ⟨F, S, H⟩ ds vs := by
  unfold lv at e
  split at e
  · cases e
    obtain ⟨a, vs, rfl, q, rr⟩ := Rp.lst.mp r
    exact ⟨a, vs, rfl, q.2, rr⟩
  · split at e
    · rename_i p _ xs e0
      cases e
      cases Rp.ref.mp r
      obtain ⟨_, vs, h1, rr⟩ := rs.st p _ e0
      exact ⟨p, vs, rfl, h1, rr⟩
    · cases e
  · cases e
theorem sv_ok (rs : RS G ⟨F, S, H⟩) (r : Rp G ⟨F, S, H⟩ d v) (e : sv S d = some ds) : ∃ a vs, v = .ref a ∧ (SqL G.K H a vs ∨ SqT G.K H a vs) ∧ Rps G ⟨F, S, H⟩ ds vs := by
  unfold sv at e
  split at e
  · cases e
    obtain ⟨a, vs, rfl, q, _, rr⟩ := Rp.tup.mp r
    exact ⟨a, vs, rfl, .inr q.sq, rr⟩
  · cases e
    obtain ⟨a, vs, rfl, q, rr⟩ := Rp.lst.mp r
    exact ⟨a, vs, rfl, .inl (SqL.of q.2), rr⟩
  · cases e
    obtain ⟨a, vs, rfl, q, rr⟩ := Rp.scr.mp r
    exact ⟨a, vs, rfl, .inl q.sq, rr⟩
  · split at e
    · rename_i p _ xs e0
      cases e
      cases Rp.ref.mp r
      obtain ⟨_, vs, h1, rr⟩ := rs.st p _ e0
      exact ⟨p, vs, rfl, .inl (.inl (.inl h1)), rr⟩
    · cases e
  · cases e
theorem sv_two (rs : RS G ⟨F, S, H⟩) (r : Rp G ⟨F, S, H⟩ d v) (e : sv S d = some ds) : (∃ a vs, v = .ref a ∧ SqL G.K H a vs ∧ Rps G ⟨F, S, H⟩ ds vs) ∨ d = .tup ds := by
  unfold sv at e
  split at e
  · cases e; exact .inr rfl
  · cases e
    obtain ⟨a, vs, rfl, q, rr⟩ := Rp.lst.mp r
    exact .inl ⟨a, vs, rfl, SqL.of q.2, rr⟩
  · cases e
    obtain ⟨a, vs, rfl, q, rr⟩ := Rp.scr.mp r
    exact .inl ⟨a, vs, rfl, q.sq, rr⟩
  · split at e
    · rename_i p _ xs e0
      cases e
      cases Rp.ref.mp r
      obtain ⟨_, vs, h1, rr⟩ := rs.st p _ e0
      exact .inl ⟨p, vs, rfl, SqL.of h1, rr⟩
    · cases e
  · cases e
theorem zip_fst {α β γ : Type} : ∀ {xs : List α} {ys : List β}, xs.length = ys.length → (xs.zip ys).map (·.1) = xs
  | [], _, _ => rfl
  | x :: xs, [], h => by simp at h
  | x :: xs, y :: ys, h => by
    rw [List.zip_cons_cons, List.map_cons, zip_fst (γ := γ) (by simpa using h)]
theorem zip_snd {α β γ : Type} : ∀ {xs : List α} {ys : List β}, xs.length = ys.length → (xs.zip ys).map (·.2) = ys
  | [], [], _ => rfl
  | [], _ :: _, h => by simp at h
  | x :: xs, [], h => by simp at h
  | x :: xs, y :: ys, h => by
    rw [List.zip_cons_cons, List.map_cons, zip_snd (γ := γ) (by simpa using h)]
theorem dv_ok {kvs : List (Key × D)} (rs : RS G ⟨F, S, H⟩) (r : Rp G ⟨F, S, H⟩ d v) (e : dv S d = some kvs) : ∃ a vs, v = .ref a ∧ Rd H a (.dK vs) ∧ vs.map (·.1) = kvs.map (·.1) ∧ kok (kvs.map (·.1)) ∧ Rps G ⟨F, S, H⟩ (kvs.map (·.2)) (vs.map (·.2)) := by
  unfold dv at e
  split at e
  · rename_i ks xs
    cases e
    obtain ⟨a, o, vs, rfl, _, q, z, y, rr⟩ := Rp.dct.mp r
    have hl : ks.length = xs.length := by
      rw [← z, List.length_map, rr.len, List.length_map]
    exact ⟨a, vs, rfl, .inr ⟨o, q⟩, by rw [zip_fst (γ := Nat) hl]; exact z, by rw [zip_fst (γ := Nat) hl]; exact y, by rw [zip_snd (γ := Nat) hl]; exact rr⟩
  · split at e
    · rename_i p _ xs e0
      cases e
      cases Rp.ref.mp r
      obtain ⟨_, vs, h1, z, y, rr⟩ := rs.st p _ e0
      exact ⟨p, vs, rfl, .inl h1, z, y, rr⟩
    · cases e
  · cases e
theorem dv2_ok {kvs : List ((Int × Str) × D)} (rs : RS G ⟨F, S, H⟩) (r : Rp G ⟨F, S, H⟩ d v) (e : dv2 S d = some kvs) : ∃ a vs, v = .ref a ∧ Rd H a (.dT vs) ∧ vs.map (·.1) = kvs.map (fun x => key2 x.1) ∧ kok2 (kvs.map (·.1)) ∧ Rps G ⟨F, S, H⟩ (kvs.map (·.2)) (vs.map (·.2)) := by
  unfold dv2 at e
  split at e
  · rename_i ks xs
    cases e
    obtain ⟨a, o, vs, rfl, _, q, z, y, rr⟩ := Rp.dc2.mp r
    have hl : ks.length = xs.length := by
      have := congrArg List.length z
      rw [List.length_map, List.length_map] at this
      rw [← this, rr.len, List.length_map]
    refine ⟨a, vs, rfl, .inr ⟨o, q⟩, ?_, by rw [zip_fst (γ := Nat) hl]; exact y, by rw [zip_snd (γ := Nat) hl]; exact rr⟩
    rw [z]
    have : (ks.zip xs).map (fun x => key2 x.1) = ((ks.zip xs).map (·.1)).map key2 := by rw [List.map_map]; rfl
    rw [this, zip_fst (γ := Nat) hl]
  · split at e
    · rename_i p _ xs e0
      cases e
      cases Rp.ref.mp r
      obtain ⟨_, vs, h1, z, y, rr⟩ := rs.st p _ e0
      exact ⟨p, vs, rfl, .inl h1, z, y, rr⟩
    · cases e
  · cases e
theorem iv_ok {k : Nat} {fs : List (Str × D)} (rs : RS G ⟨F, S, H⟩) (r : Rp G ⟨F, S, H⟩ d v) (e : iv S d = some (k, fs)) : ∃ a dx vs, v = .ref a ∧ H a = some (.ins (G.ca k) dx vs) ∧ RFs G ⟨F, S, H⟩ fs vs := by
  unfold iv at e
  split at e
  · rename_i c ns xs
    cases e
    obtain ⟨a, dx, vs, rfl, _, q, z, rr⟩ := Rp.ins.mp r
    have hl : ns.length = xs.length := by
      rw [← z, List.length_map, rr.len, List.length_map]
    exact ⟨a, dx, vs, rfl, q, by rw [zip_fst (γ := Nat) hl]; exact z, by rw [zip_snd (γ := Nat) hl]; exact rr⟩
  · split at e
    · rename_i p _ c xs e0
      cases e
      cases Rp.ref.mp r
      obtain ⟨_, dx, vs, h1, rr⟩ := rs.st p _ e0
      exact ⟨p, dx, vs, rfl, h1, rr⟩
    · cases e
  · cases e

theorem newL_ok {fz : Bool} {vs : List V} {Qd : PoE} {Q : VK} (rs : RS G ⟨F, S, H⟩) (r : Rps G ⟨F, S, H⟩ ds vs) (fe : FE G ⟨F, S, H⟩ Qd Q) (hw : newL fz ds S Qd) : ∀ p, H p = none → Q (.ref p) (L2.upd H p (.lst vs)) := by
  intro p hp
  unfold newL at hw
  cases fz with
  | true =>
    rw [if_pos rfl] at hw
    have k : TK ⟨F, S, H⟩ ⟨insF F p, S, L2.upd H p (.lst vs)⟩ := TK.layF rs hp
    exact fe _ _ _ _ _ k (rs.layF hp) (Rp.lst.mpr ⟨p, vs, rfl, ⟨insF.same, upd_same⟩, Rps.tk k.toRK _ _ r⟩) hw
  | false =>
    rw [if_neg (by decide)] at hw
    have k : TK ⟨F, S, H⟩ ⟨F, S.set p (.lst ds), L2.upd H p (.lst vs)⟩ := TK.new rs hp
    exact fe _ _ _ _ _ k (rs.new hp ⟨vs, upd_same, Rps.tk k.toRK _ _ r⟩) (Rp.ref.mpr rfl) (hw p (rs.nil hp))

theorem newT_ok {vs : List V} {Qd : PoE} {Q : VK} (rs : RS G ⟨F, S, H⟩) (r : Rps G ⟨F, S, H⟩ ds vs) (fe : FE G ⟨F, S, H⟩ Qd Q) (hw : Qd (.tup ds) S) : ∀ p, H p = none → Q (.ref p) (L2.upd H p (.tup vs)) := by
  intro p hp
  have k : TK ⟨F, S, H⟩ ⟨F, S, L2.upd H p (.tup vs)⟩ := TK.lay rs hp
  exact fe _ _ _ _ _ k (rs.lay hp) (Rp.tup_new upd_same (Rps.tk k.toRK _ _ r)) hw

theorem newO_ok {o : O} {u : HO} {Qd : PoE} {Q : VK} (rs : RS G ⟨F, S, H⟩) (r : ∀ p m, RK ⟨F, S, H⟩ m → m.H p = some u → RpO G m p o) (fe : FE G ⟨F, S, H⟩ Qd Q) (hw : newO o S Qd) : ∀ p, H p = none → Q (.ref p) (L2.upd H p u) := by
  intro p hp
  have k : TK ⟨F, S, H⟩ ⟨F, S.set p o, L2.upd H p u⟩ := TK.new rs hp
  exact fe _ _ _ _ _ k (rs.new hp (r p _ k.toRK upd_same)) (Rp.ref.mpr rfl) (hw p (rs.nil hp))
end

mutual
theorem plain_py {G : Gd} {m : Wd} : ∀ (n : Nat) (d : D) (v : V), plainN n d = true → Rp G m d v → ∃ p, pyD d = some p ∧ p.canLay0 = true ∧ p.depth ≤ n
  | n, .non, _, _, _ => ⟨.none, by simp only [pyD], by simp only [PyData.canLay0], by simp only [PyData.depth]; omega⟩
  | n, .bl b, _, _, _ => ⟨.bool b, by simp only [pyD], by simp only [PyData.canLay0], by simp only [PyData.depth]; omega⟩
  | n, .int i, _, _, _ => ⟨.int i, by simp only [pyD], by simp only [PyData.canLay0], by simp only [PyData.depth]; omega⟩
  | n, .str x, _, _, r => ⟨.str x, by simp only [pyD], by simp only [PyData.canLay0]; exact (Rp.str.mp r).2, by simp only [PyData.depth]; omega⟩
  | n, .tup xs, v, h, r => by
    obtain ⟨a, vs, _, _, _, rr⟩ := Rp.tup.mp r
    cases n with
    | zero => simp only [plainN] at h; cases h
    | succ n =>
      simp only [plainN] at h
      obtain ⟨ps, e, c, q⟩ := plains_py n xs vs h rr
      exact ⟨.tuple ps, by simp only [pyD, e], by simp only [PyData.canLay0]; exact c, by simp only [PyData.depth]; omega⟩
  | n, .lst xs, v, h, r => by
    obtain ⟨a, vs, _, _, rr⟩ := Rp.lst.mp r
    cases n with
    | zero => simp only [plainN] at h; cases h
    | succ n =>
      simp only [plainN] at h
      obtain ⟨ps, e, c, q⟩ := plains_py n xs vs h rr
      exact ⟨.list ps, by simp only [pyD, e], by simp only [PyData.canLay0]; exact c, by simp only [PyData.depth]; omega⟩
  | n, .ref _, _, h, _ => by simp only [plainN] at h; cases h
  | n, .ty _, _, h, _ => by simp only [plainN] at h; cases h
  | n, .fn _, _, h, _ => by simp only [plainN] at h; cases h
  | n, .cls _, _, h, _ => by simp only [plainN] at h; cases h
  | n, .scr _, _, h, _ => by simp only [plainN] at h; cases h
  | n, .dct _ _, _, h, _ => by simp only [plainN] at h; cases h
  | n, .dc2 _ _, _, h, _ => by simp only [plainN] at h; cases h
  | n, .ins _ _ _, _, h, _ => by simp only [plainN] at h; cases h
theorem plains_py {G : Gd} {m : Wd} : ∀ (n : Nat) (ds : List D) (vs : List V), plainNs n ds = true → Rps G m ds vs → ∃ ps, pyDs ds = some ps ∧ PyData.canLayAll0 ps = true ∧ PyData.depthAll ps ≤ n
  | n, [], _, _, _ => ⟨[], by simp only [pyDs], by simp only [PyData.canLayAll0], by simp only [PyData.depthAll]; omega⟩
  | n, d :: ds, vs, h, r => by
    obtain ⟨v, t, rfl, r1, r2⟩ := Rps.cons.mp r
    simp only [plainNs, Bool.and_eq_true] at h
    obtain ⟨p, e1, c1, q1⟩ := plain_py n d v h.1 r1
    obtain ⟨ps, e2, c2, q2⟩ := plains_py n ds t h.2 r2
    exact ⟨p :: ps, by simp only [pyDs, e1, e2], by simp only [PyData.canLayAll0, c1, c2, Bool.and_self], by simp only [PyData.depthAll]; omega⟩
end
mutual
theorem eqD_py : ∀ (n m : Nat) (a b : D) (p q : PyData), plainN n a = true → plainN m b = true → pyD a = some p → pyD b = some q → eqD a b = PyData.eqv p q
  | n, m, .non, b, p, q, h1, h2, e1, e2 => by
    simp only [pyD] at e1; cases e1
    cases b <;> simp only [plainN] at h2 <;> first | (cases h2; done) | skip
    all_goals first
      | (simp only [pyD] at e2; cases e2; simp only [eqD, PyData.eqv]; done)
      | (simp only [pyD] at e2; split at e2 <;> cases e2; simp only [eqD, PyData.eqv]; done)
  | n, m, .bl x, b, p, q, h1, h2, e1, e2 => by
    simp only [pyD] at e1; cases e1
    cases b <;> simp only [plainN] at h2 <;> first | (cases h2; done) | skip
    all_goals first
      | (simp only [pyD] at e2; cases e2; simp only [eqD, PyData.eqv, b2I]; first | done | rfl)
      | (simp only [pyD] at e2; split at e2 <;> cases e2; simp only [eqD, PyData.eqv]; done)
  | n, m, .int x, b, p, q, h1, h2, e1, e2 => by
    simp only [pyD] at e1; cases e1
    cases b <;> simp only [plainN] at h2 <;> first | (cases h2; done) | skip
    all_goals first
      | (simp only [pyD] at e2; cases e2; simp only [eqD, PyData.eqv, b2I]; first | done | rfl)
      | (simp only [pyD] at e2; split at e2 <;> cases e2; simp only [eqD, PyData.eqv]; done)
  | n, m, .str x, b, p, q, h1, h2, e1, e2 => by
    simp only [pyD] at e1; cases e1
    cases b <;> simp only [plainN] at h2 <;> first | (cases h2; done) | skip
    all_goals first
      | (simp only [pyD] at e2; cases e2; simp only [eqD, PyData.eqv]; first | done | exact (Bool.beq_eq_decide_eq ..).symm)
      | (simp only [pyD] at e2; split at e2 <;> cases e2; simp only [eqD, PyData.eqv]; done)
  | n, m, .tup xs, b, p, q, h1, h2, e1, e2 => by
    simp only [pyD] at e1
    split at e1
    · rename_i ps e3
      cases e1
      cases b <;> simp only [plainN] at h2 <;> first | (cases h2; done) | skip
      · simp only [pyD] at e2; cases e2; simp only [eqD, PyData.eqv]
      · simp only [pyD] at e2; cases e2; simp only [eqD, PyData.eqv]
      · simp only [pyD] at e2; cases e2; simp only [eqD, PyData.eqv]
      · simp only [pyD] at e2; cases e2; simp only [eqD, PyData.eqv]
      · rename_i ys
        simp only [pyD] at e2
        split at e2
        · rename_i qs e4
          cases e2
          simp only [eqD, PyData.eqv]
          cases n with
          | zero => simp only [plainN] at h1; cases h1
          | succ n =>
            cases m with
            | zero => simp only at h2; cases h2
            | succ m =>
              simp only [plainN] at h1
              exact eqDs_py n m xs ys ps qs h1 h2 e3 e4
        · cases e2
      · simp only [pyD] at e2
        split at e2 <;> cases e2
        simp only [eqD, PyData.eqv]
    · cases e1
  | n, m, .lst xs, b, p, q, h1, h2, e1, e2 => by
    simp only [pyD] at e1
    split at e1
    · rename_i ps e3
      cases e1
      cases b <;> simp only [plainN] at h2 <;> first | (cases h2; done) | skip
      · simp only [pyD] at e2; cases e2; simp only [eqD, PyData.eqv]
      · simp only [pyD] at e2; cases e2; simp only [eqD, PyData.eqv]
      · simp only [pyD] at e2; cases e2; simp only [eqD, PyData.eqv]
      · simp only [pyD] at e2; cases e2; simp only [eqD, PyData.eqv]
      · simp only [pyD] at e2
        split at e2 <;> cases e2
        simp only [eqD, PyData.eqv]
      · rename_i ys
        simp only [pyD] at e2
        split at e2
        · rename_i qs e4
          cases e2
          simp only [eqD, PyData.eqv]
          cases n with
          | zero => simp only [plainN] at h1; cases h1
          | succ n =>
            cases m with
            | zero => simp only at h2; cases h2
            | succ m =>
              simp only [plainN] at h1
              exact eqDs_py n m xs ys ps qs h1 h2 e3 e4
        · cases e2
    · cases e1
  | n, m, .ref _, _, _, _, h, _, _, _ => by simp only [plainN] at h; cases h
  | n, m, .ty _, _, _, _, h, _, _, _ => by simp only [plainN] at h; cases h
  | n, m, .fn _, _, _, _, h, _, _, _ => by simp only [plainN] at h; cases h
  | n, m, .cls _, _, _, _, h, _, _, _ => by simp only [plainN] at h; cases h
  | n, m, .scr _, _, _, _, h, _, _, _ => by simp only [plainN] at h; cases h
  | n, m, .dct _ _, _, _, _, h, _, _, _ => by simp only [plainN] at h; cases h
  | n, m, .dc2 _ _, _, _, _, h, _, _, _ => by simp only [plainN] at h; cases h
  | n, m, .ins _ _ _, _, _, _, h, _, _, _ => by simp only [plainN] at h; cases h
theorem eqDs_py : ∀ (n m : Nat) (as bs : List D) (ps qs : List PyData), plainNs n as = true → plainNs m bs = true → pyDs as = some ps → pyDs bs = some qs → eqDs as bs = PyData.eqvAll ps qs
  | n, m, [], bs, ps, qs, h1, h2, e1, e2 => by
    simp only [pyDs] at e1; cases e1
    cases bs with
    | nil => simp only [pyDs] at e2; cases e2; simp only [eqDs, PyData.eqvAll, List.isEmpty_nil]
    | cons b bs => simp only [pyDs] at e2; split at e2 <;> cases e2; simp only [eqDs, PyData.eqvAll, List.isEmpty_cons]
  | n, m, a :: as, bs, ps, qs, h1, h2, e1, e2 => by
    simp only [pyDs] at e1
    split at e1 <;> cases e1
    rename_i p ps' f1 f2
    cases bs with
    | nil => simp only [pyDs] at e2; cases e2; simp only [eqDs, PyData.eqvAll]
    | cons b bs =>
      simp only [pyDs] at e2
      split at e2 <;> cases e2
      rename_i q qs' f3 f4
      simp only [plainNs, Bool.and_eq_true] at h1 h2
      simp only [eqDs, PyData.eqvAll]
      rw [eqD_py n m a b p q h1.1 h2.1 f1 f3, eqDs_py n m as bs ps' qs' h1.2 h2.2 f2 f4]
end
end L4

namespace L4
open PySem PySem.Spec PyProof.Rows L2

noncomputable def SmD (h : Heap) : Prop := ∃ o es ep, h.get? sysModules = some o ∧ o.data = .dict es ep
theorem sm_cons {h : Heap} {a : Addr} {o : Obj} {vs : Array Value} {n : Nat} {as : List Addr} (ho : h.get? a = some o) (hd : o.data = .seq vs n) (hn : SmD h → sysModules ∉ as) : SmD h → sysModules ∉ a :: as := fun q z => by
  rcases List.mem_cons.mp z with z | z
  · obtain ⟨o', es, ep, h1, h2⟩ := q
    rw [z, ho] at h1
    cases h1
    rw [hd] at h2
    cases h2
  · exact hn q z
noncomputable def keyPy : Key → PyData := fun k => match k with
  | .inl i => PyData.int i
  | .inr x => PyData.str x
theorem pyDs_len : ∀ {ds : List D} {ps : List PyData}, pyDs ds = some ps → ds.length = ps.length
  | [], ps, e => by simp only [pyDs] at e; cases e; rfl
  | d :: ds, ps, e => by
    simp only [pyDs] at e
    split at e <;> cases e
    rename_i p ps' _ e2
    rw [List.length_cons, List.length_cons, pyDs_len e2]
theorem pairs_reads {P : Program} {w : World} {h : Heap} : ∀ {kvs : List (Key × V)} {vs : List (Key × Value)} {es : List DictEntry}, KV kvs vs → Pairs (mixKind P w) es vs →
    ∃ us, Vals (kvs.map (·.2)) us ∧ ReadsAll h (es.map (·.key)) ((kvs.map (·.1)).map keyPy) [] ∧ us = es.map (·.val)
  | [], vs, es, r, p => by
    cases r
    cases p
    exact ⟨[], .nil, .nil, rfl⟩
  | kv :: kvs, vs, es, r, p => by
    cases r with
    | @cons _ q _ _ hq t =>
      cases p with
      | @cons e _ es' _ h1 h2 h3 =>
        obtain ⟨us, v1, v2, v3⟩ := pairs_reads (h := h) t h3
        refine ⟨e.val :: us, .cons (by rw [h2]; exact hq.2) v1, ?_, by rw [v3]; rfl⟩
        have hk : Reads h e.key (keyPy kv.1) [] := by
          rw [hq.1]
          have h1 : keyIs q.1 e.key = true := h1
          rcases keyIs_shape h1 with ⟨i, t, e1, e2⟩ | ⟨x, t, e1, e2⟩
          · rw [e1, e2]; exact .int i t
          · rw [e1, e2]; exact .str x t
        exact .cons hk v2
section
variable {X : Cx} {G : Gd}
mutual
theorem reads_of {pins : List (Addr × Obj)} {σ : L2.St} {F : Addr → Prop} {S : Sto} {H : Hp} {s : Shared} (hK : X.K = G.K) (I : Inv X pins σ H s) :
    ∀ (d : D) (v : V) (u : Value) (p : PyData), Rp G ⟨F, S, H⟩ d v → RelV v u → pyD d = some p → ∃ as, Reads s.heap u p as ∧ (SmD s.heap → sysModules ∉ as)
  | .non, v, u, p, r, rv, e => by
    simp only [pyD] at e; cases e
    cases Rp.non.mp r; cases rv; exact ⟨_, .none, fun _ z => by cases z⟩
  | .bl b, v, u, p, r, rv, e => by
    simp only [pyD] at e; cases e
    cases Rp.bl.mp r; cases rv; exact ⟨_, .bool _, fun _ z => by cases z⟩
  | .int i, v, u, p, r, rv, e => by
    simp only [pyD] at e; cases e
    cases Rp.int.mp r; obtain ⟨t, rfl⟩ := rv; exact ⟨_, .int _ _, fun _ z => by cases z⟩
  | .str x, v, u, p, r, rv, e => by
    simp only [pyD] at e; cases e
    cases (Rp.str.mp r).1; obtain ⟨t, rfl⟩ := rv; exact ⟨_, .str _ _, fun _ z => by cases z⟩
  | .tup ds, v, u, p, r, rv, e => by
    simp only [pyD] at e
    split at e <;> cases e
    rename_i xs e1
    obtain ⟨a, vs, rfl, hq, _, r2⟩ := Rp.tup.mp r
    cases rv
    obtain ⟨its, rv2, ⟨o, ho, hcl, m, hd2⟩, _⟩ := I.tuple (a := a) (xs := vs) (by rw [hK]; exact hq.sq)
    obtain ⟨as, ra, hn⟩ := readsAll_of hK I ds vs its xs r2 rv2 e1
    exact ⟨_, .tuple ho hcl hd2 ra, hn⟩
  | .lst ds, v, u, p, r, rv, e => by
    simp only [pyD] at e
    split at e <;> cases e
    rename_i xs e1
    obtain ⟨a, vs, rfl, hq, r2⟩ := Rp.lst.mp r
    cases rv
    obtain ⟨its, rv2, ⟨o, m, ho, hcl, hdi, hd2⟩, _⟩ := I.list (a := a) (xs := vs) (SqL.of hq.2)
    obtain ⟨as, ra, hn⟩ := readsAll_of hK I ds vs its xs r2 rv2 e1
    exact ⟨_, .list ho hcl hd2 ra, sm_cons ho hd2 hn⟩
  | .dct ks ds, v, u, p, r, rv, e => by
    simp only [pyD] at e
    split at e <;> cases e
    rename_i xs e1
    obtain ⟨a, o, kvs, rfl, hf, hq, hk, hs, r2⟩ := Rp.dct.mp r
    cases rv
    obtain ⟨_, hsm, vs, rel, ob, es, ep, ho, hx, hd2, _, hp, _⟩ := dk_rd I.hok (show Rd H a (.dK kvs) from .inr ⟨o, hq⟩)
    obtain ⟨ps, rv2, k1, k2⟩ := pairs_reads rel hp
    obtain ⟨as, ra, hn⟩ := readsAll_of hK I ds (kvs.map (·.2)) _ xs r2 rv2 e1
    have hl : kvs.length = xs.length := by
      have h1 := r2.len
      have h2 := pyDs_len e1
      rw [List.length_map] at h1
      omega
    have hl2 : (ks.map keyPy).length = xs.length := by rw [← hk, List.length_map, List.length_map]; exact hl
    refine ⟨_, .dict (kvs := (ks.map keyPy).zip xs) ho hx.1 hd2 (by rw [List.map_fst_zip (Nat.le_of_eq hl2), ← hk]; exact k1) (by rw [List.map_snd_zip (Nat.le_of_eq hl2.symm)]; exact k2 ▸ ra), fun h z => ?_⟩
    rcases List.mem_append.mp z with z | z
    · rcases List.mem_cons.mp z with z | z
      · rw [← z] at hsm; exact absurd hsm (by decide)
      · cases z
    · exact hn h z
  | .ref _, _, _, _, _, _, e => by simp only [pyD] at e; cases e
  | .ty _, _, _, _, _, _, e => by simp only [pyD] at e; cases e
  | .fn _, _, _, _, _, _, e => by simp only [pyD] at e; cases e
  | .cls _, _, _, _, _, _, e => by simp only [pyD] at e; cases e
  | .scr _, _, _, _, _, _, e => by simp only [pyD] at e; cases e
  | .dc2 _ _, _, _, _, _, _, e => by simp only [pyD] at e; cases e
  | .ins _ _ _, _, _, _, _, _, e => by simp only [pyD] at e; cases e
theorem readsAll_of {pins : List (Addr × Obj)} {σ : L2.St} {F : Addr → Prop} {S : Sto} {H : Hp} {s : Shared} (hK : X.K = G.K) (I : Inv X pins σ H s) :
    ∀ (ds : List D) (vs : List V) (us : List Value) (ps : List PyData), Rps G ⟨F, S, H⟩ ds vs → Vals vs us → pyDs ds = some ps → ∃ as, ReadsAll s.heap us ps as ∧ (SmD s.heap → sysModules ∉ as)
  | [], vs, us, ps, r, rv, e => by
    rw [Rps.nil.mp r] at rv
    cases rv
    simp only [pyDs] at e; cases e
    exact ⟨[], .nil, fun _ z => by cases z⟩
  | d :: ds, vs, us, ps, r, rv, e => by
    obtain ⟨v, t, rfl, r1, r2⟩ := Rps.cons.mp r
    cases rv with
    | cons q1 q2 =>
      simp only [pyDs] at e
      split at e <;> cases e
      rename_i p ps' e1 e2
      obtain ⟨as, h1, n1⟩ := reads_of hK I d v _ p r1 q1 e1
      obtain ⟨bs, h2, n2⟩ := readsAll_of hK I ds t _ ps' r2 q2 e2
      exact ⟨_, .cons h1 h2, fun h z => (List.mem_append.mp z).elim (n1 h) (n2 h)⟩
end
theorem topD_rp {F : Addr → Prop} {S : Sto} {H : Hp} {d : D} {v : V} (rs : RS G ⟨F, S, H⟩) (r : Rp G ⟨F, S, H⟩ d v) : topD S d = d ∨ ∃ xs, topD S d = .lst xs ∧ lv S d = some xs := by
  unfold topD
  split
  · rename_i p
    split
    · rename_i xs e
      exact .inr ⟨xs, rfl, by simp only [lv, e]⟩
    · exact .inl rfl
  · exact .inl rfl

theorem top_reads {pins : List (Addr × Obj)} {σ : L2.St} {F : Addr → Prop} {S : Sto} {H : Hp} {s : Shared} (hK : X.K = G.K) (I : Inv X pins σ H s) (rs : RS G ⟨F, S, H⟩) {d : D} {v : V} {u : Value} {n : Nat} (r : Rp G ⟨F, S, H⟩ d v) (rv : RelV v u) (h : plainN n (topD S d) = true) :
    ∃ p as, pyD (topD S d) = some p ∧ p.canLay0 = true ∧ p.depth ≤ n ∧ Reads s.heap u p as := by
  rcases topD_rp rs r with e | ⟨xs, e, e2⟩
  · rw [e] at h ⊢
    obtain ⟨p, e1, c, q⟩ := plain_py n d v h r
    obtain ⟨as, ra, _⟩ := reads_of hK I d v u p r rv e1
    exact ⟨p, as, e1, c, q, ra⟩
  · rw [e] at h ⊢
    obtain ⟨a, vs, rfl, h1, rr⟩ := lv_ok rs r e2
    cases rv
    cases n with
    | zero => simp only [plainN] at h; cases h
    | succ n =>
      simp only [plainN] at h
      obtain ⟨ps, e3, c, q⟩ := plains_py n xs vs h rr
      obtain ⟨its, rv2, ⟨o, m, ho, hcl, hdi, hd2⟩, _⟩ := I.list (a := a) (xs := vs) (SqL.of h1)
      obtain ⟨as, ra, _⟩ := readsAll_of hK I xs vs its ps rr rv2 e3
      exact ⟨.list ps, a :: as, by simp only [pyD, e3], by simp only [PyData.canLay0]; exact c, by simp only [PyData.depth]; omega, .list ho hcl hd2 ra⟩

mutual
noncomputable def Rq (G : Gd) (m : Wd) : D → V → Prop
  | .non, v => v = .non
  | .bl b, v => v = .bl b
  | .int i, v => v = .int i
  | .str x, v => v = .str x ∧ sok x
  | .tup ds, v => ∃ a xs, v = .ref a ∧ TpV G m a xs ∧ Rqs G m ds xs
  | .lst ds, v => ∃ a xs, v = .ref a ∧ Rd m.H a (.lst xs) ∧ Rqs G m ds xs
  | .dct ks ds, v => ∃ a kvs, v = .ref a ∧ Rd m.H a (.dK kvs) ∧ kvs.map (·.1) = ks ∧ kok ks ∧ Rqs G m ds (kvs.map (·.2))
  | _, _ => True
noncomputable def Rqs (G : Gd) (m : Wd) : List D → List V → Prop
  | [], vs => vs = []
  | d :: ds, vs => ∃ v r, vs = v :: r ∧ Rq G m d v ∧ Rqs G m ds r
end
mutual
theorem Rp.rq {m : Wd} : ∀ (d : D) (v : V), Rp G m d v → Rq G m d v
  | .non, _, r => by unfold Rq; exact Rp.non.mp r
  | .bl _, _, r => by unfold Rq; exact Rp.bl.mp r
  | .int _, _, r => by unfold Rq; exact Rp.int.mp r
  | .str _, _, r => by unfold Rq; exact Rp.str.mp r
  | .tup ds, _, r => by
    unfold Rq
    obtain ⟨a, xs, e, h1, _, h2⟩ := Rp.tup.mp r
    exact ⟨a, xs, e, h1, Rps.rq ds xs h2⟩
  | .lst ds, _, r => by
    unfold Rq
    obtain ⟨a, xs, e, h1, h2⟩ := Rp.lst.mp r
    exact ⟨a, xs, e, .inl h1.2, Rps.rq ds xs h2⟩
  | .dct ks ds, _, r => by
    unfold Rq
    obtain ⟨a, o, kvs, e, _, hq, hk, hs, r2⟩ := Rp.dct.mp r
    exact ⟨a, kvs, e, .inr ⟨o, hq⟩, hk, hs, Rps.rq ds _ r2⟩
  | .ref _, _, _ => by unfold Rq; trivial
  | .ty _, _, _ => by unfold Rq; trivial
  | .fn _, _, _ => by unfold Rq; trivial
  | .cls _, _, _ => by unfold Rq; trivial
  | .scr _, _, _ => by unfold Rq; trivial
  | .dc2 _ _, _, _ => by unfold Rq; trivial
  | .ins _ _ _, _, _ => by unfold Rq; trivial
theorem Rps.rq {m : Wd} : ∀ (ds : List D) (vs : List V), Rps G m ds vs → Rqs G m ds vs
  | [], _, r => by unfold Rqs; exact Rps.nil.mp r
  | d :: ds, _, r => by
    unfold Rqs
    obtain ⟨v, t, e, r1, r2⟩ := Rps.cons.mp r
    exact ⟨v, t, e, Rp.rq d v r1, Rps.rq ds t r2⟩
end
theorem rqs_len {m : Wd} : ∀ (ds : List D) (vs : List V), Rqs G m ds vs → ds.length = vs.length
  | [], _, r => by unfold Rqs at r; rw [r]; rfl
  | d :: ds, _, r => by
    unfold Rqs at r
    obtain ⟨v, t, rfl, _, r2⟩ := r
    simp [rqs_len ds t r2]
theorem res_rq {S : Sto} {F : Addr → Prop} {H : Hp} (rs : RS G ⟨F, S, H⟩) : ∀ (n : Nat) (d : D) (v : V), Rp G ⟨F, S, H⟩ d v → Rq G ⟨F, S, H⟩ (resD n S d) v := by
  have flat : ∀ (n : Nat), (∀ (d : D) (v : V), Rp G ⟨F, S, H⟩ d v → Rq G ⟨F, S, H⟩ (resD n S d) v) → ∀ (ds : List D) (vs : List V), Rps G ⟨F, S, H⟩ ds vs → Rqs G ⟨F, S, H⟩ (ds.map (resD n S)) vs := by
    intro n h ds
    induction ds with
    | nil => intro vs r; rw [Rps.nil.mp r]; unfold Rqs List.map; rfl
    | cons d ds ih =>
      intro vs r
      obtain ⟨v, t, rfl, r1, r2⟩ := Rps.cons.mp r
      rw [List.map_cons]
      unfold Rqs
      exact ⟨v, t, rfl, h d v r1, ih t r2⟩
  have zero : ∀ (d : D) (v : V), Rp G ⟨F, S, H⟩ d v → Rq G ⟨F, S, H⟩ d v := by
    have key : (∀ (d : D) (v : V), Rp G ⟨F, S, H⟩ d v → Rq G ⟨F, S, H⟩ d v) ∧ (∀ (ds : List D) (vs : List V), Rps G ⟨F, S, H⟩ ds vs → Rqs G ⟨F, S, H⟩ ds vs) := ⟨Rp.rq, Rps.rq⟩
    exact key.1
  intro n
  induction n with
  | zero => exact fun d v r => zero d v r
  | succ n ih =>
    intro d v r
    cases d with
    | tup ds =>
      obtain ⟨a, xs, rfl, h1, _, h2⟩ := Rp.tup.mp r
      show Rq G _ (.tup (ds.map (resD n S))) _
      unfold Rq
      exact ⟨a, xs, rfl, h1, flat n ih ds xs h2⟩
    | lst ds =>
      obtain ⟨a, xs, rfl, h1, h2⟩ := Rp.lst.mp r
      show Rq G _ (.lst (ds.map (resD n S))) _
      unfold Rq
      exact ⟨a, xs, rfl, .inl h1.2, flat n ih ds xs h2⟩
    | dct ks ds =>
      obtain ⟨a, o, kvs, rfl, _, hq, hk, hs, r2⟩ := Rp.dct.mp r
      show Rq G _ (.dct ks (ds.map (resD n S))) _
      unfold Rq
      exact ⟨a, kvs, rfl, .inr ⟨o, hq⟩, hk, hs, flat n ih ds _ r2⟩
    | ref p =>
      cases Rp.ref.mp r
      show Rq G _ (match S p with
        | some (.lst xs) => .lst (xs.map (resD n S))
        | some (.dct kvs) => .dct (kvs.map (·.1)) (kvs.map fun kv => resD n S kv.2)
        | _ => .ref p) _
      split
      · rename_i xs e
        obtain ⟨_, vs, h1, h2⟩ := rs.st p _ e
        unfold Rq
        exact ⟨p, vs, rfl, .inl h1, flat n ih xs vs h2⟩
      · rename_i kvs e
        obtain ⟨_, vs, h1, z, y, rr⟩ := rs.st p _ e
        unfold Rq
        refine ⟨p, vs, rfl, .inl h1, z, y, ?_⟩
        have := flat n ih _ _ rr
        rw [List.map_map] at this
        exact this
      · unfold Rq; trivial
    | non => exact zero _ _ r
    | bl _ => exact zero _ _ r
    | int _ => exact zero _ _ r
    | str _ => exact zero _ _ r
    | _ => show Rq G _ _ _; unfold Rq; trivial
mutual
theorem reads_q {pins : List (Addr × Obj)} {σ : L2.St} {F : Addr → Prop} {S : Sto} {H : Hp} {s : Shared} (hK : X.K = G.K) (I : Inv X pins σ H s) :
    ∀ (d : D) (v : V) (u : Value) (p : PyData), Rq G ⟨F, S, H⟩ d v → RelV v u → pyD d = some p → ∃ as, Reads s.heap u p as ∧ (SmD s.heap → sysModules ∉ as)
  | .non, v, u, p, r, rv, e => by
    simp only [pyD] at e; cases e
    unfold Rq at r; cases r; cases rv; exact ⟨_, .none, fun _ z => by cases z⟩
  | .bl b, v, u, p, r, rv, e => by
    simp only [pyD] at e; cases e
    unfold Rq at r; cases r; cases rv; exact ⟨_, .bool _, fun _ z => by cases z⟩
  | .int i, v, u, p, r, rv, e => by
    simp only [pyD] at e; cases e
    unfold Rq at r; cases r; obtain ⟨t, rfl⟩ := rv; exact ⟨_, .int _ _, fun _ z => by cases z⟩
  | .str x, v, u, p, r, rv, e => by
    simp only [pyD] at e; cases e
    unfold Rq at r; cases r.1; obtain ⟨t, rfl⟩ := rv; exact ⟨_, .str _ _, fun _ z => by cases z⟩
  | .tup ds, v, u, p, r, rv, e => by
    simp only [pyD] at e
    split at e <;> cases e
    rename_i xs e1
    unfold Rq at r
    obtain ⟨a, vs, rfl, hq, r2⟩ := r
    cases rv
    obtain ⟨its, rv2, ⟨o, ho, hcl, m, hd2⟩, _⟩ := I.tuple (a := a) (xs := vs) (by rw [hK]; exact hq.sq)
    obtain ⟨as, ra, hn⟩ := readsAll_q hK I ds vs its xs r2 rv2 e1
    exact ⟨_, .tuple ho hcl hd2 ra, hn⟩
  | .lst ds, v, u, p, r, rv, e => by
    simp only [pyD] at e
    split at e <;> cases e
    rename_i xs e1
    unfold Rq at r
    obtain ⟨a, vs, rfl, hq, r2⟩ := r
    cases rv
    obtain ⟨its, rv2, ⟨o, m, ho, hcl, hdi, hd2⟩, _⟩ := I.list (a := a) (xs := vs) (.inl hq)
    obtain ⟨as, ra, hn⟩ := readsAll_q hK I ds vs its xs r2 rv2 e1
    exact ⟨_, .list ho hcl hd2 ra, sm_cons ho hd2 hn⟩
  | .dct ks ds, v, u, p, r, rv, e => by
    simp only [pyD] at e
    split at e <;> cases e
    rename_i xs e1
    unfold Rq at r
    obtain ⟨a, kvs, rfl, hq, hk, hs, r2⟩ := r
    cases rv
    obtain ⟨_, hsm, vs, rel, ob, es, ep, ho, hx, hd2, _, hp, _⟩ := dk_rd I.hok hq
    obtain ⟨ps, rv2, k1, k2⟩ := pairs_reads rel hp
    obtain ⟨as, ra, hn⟩ := readsAll_q hK I ds (kvs.map (·.2)) _ xs r2 rv2 e1
    have hl : kvs.length = xs.length := by
      have h1 := (rqs_len ds _ r2)
      have h2 := pyDs_len e1
      rw [List.length_map] at h1
      omega
    have hl2 : (ks.map keyPy).length = xs.length := by rw [← hk, List.length_map, List.length_map]; exact hl
    refine ⟨_, .dict (kvs := (ks.map keyPy).zip xs) ho hx.1 hd2 (by rw [List.map_fst_zip (Nat.le_of_eq hl2), ← hk]; exact k1) (by rw [List.map_snd_zip (Nat.le_of_eq hl2.symm)]; exact k2 ▸ ra), fun h z => ?_⟩
    rcases List.mem_append.mp z with z | z
    · rcases List.mem_cons.mp z with z | z
      · rw [← z] at hsm; exact absurd hsm (by decide)
      · cases z
    · exact hn h z
  | .ref _, _, _, _, _, _, e => by simp only [pyD] at e; cases e
  | .ty _, _, _, _, _, _, e => by simp only [pyD] at e; cases e
  | .fn _, _, _, _, _, _, e => by simp only [pyD] at e; cases e
  | .cls _, _, _, _, _, _, e => by simp only [pyD] at e; cases e
  | .scr _, _, _, _, _, _, e => by simp only [pyD] at e; cases e
  | .dc2 _ _, _, _, _, _, _, e => by simp only [pyD] at e; cases e
  | .ins _ _ _, _, _, _, _, _, e => by simp only [pyD] at e; cases e
theorem readsAll_q {pins : List (Addr × Obj)} {σ : L2.St} {F : Addr → Prop} {S : Sto} {H : Hp} {s : Shared} (hK : X.K = G.K) (I : Inv X pins σ H s) :
    ∀ (ds : List D) (vs : List V) (us : List Value) (ps : List PyData), Rqs G ⟨F, S, H⟩ ds vs → Vals vs us → pyDs ds = some ps → ∃ as, ReadsAll s.heap us ps as ∧ (SmD s.heap → sysModules ∉ as)
  | [], vs, us, ps, r, rv, e => by
    unfold Rqs at r
    rw [r] at rv
    cases rv
    simp only [pyDs] at e; cases e
    exact ⟨[], .nil, fun _ z => by cases z⟩
  | d :: ds, vs, us, ps, r, rv, e => by
    unfold Rqs at r
    obtain ⟨v, t, rfl, r1, r2⟩ := r
    cases rv with
    | cons q1 q2 =>
      simp only [pyDs] at e
      split at e <;> cases e
      rename_i p ps' e1 e2
      obtain ⟨as, h1, n1⟩ := reads_q hK I d v _ p r1 q1 e1
      obtain ⟨bs, h2, n2⟩ := readsAll_q hK I ds t _ ps' r2 q2 e2
      exact ⟨_, .cons h1 h2, fun h z => (List.mem_append.mp z).elim (n1 h) (n2 h)⟩
end
mutual
theorem plain_q {m : Wd} : ∀ (n : Nat) (d : D) (v : V), plainN n d = true → Rq G m d v → ∃ p, pyD d = some p ∧ p.canLay0 = true ∧ p.depth ≤ n
  | n, .non, _, _, _ => ⟨.none, by simp only [pyD], by simp only [PyData.canLay0], by simp only [PyData.depth]; omega⟩
  | n, .bl b, _, _, _ => ⟨.bool b, by simp only [pyD], by simp only [PyData.canLay0], by simp only [PyData.depth]; omega⟩
  | n, .int i, _, _, _ => ⟨.int i, by simp only [pyD], by simp only [PyData.canLay0], by simp only [PyData.depth]; omega⟩
  | n, .str x, _, _, r => ⟨.str x, by simp only [pyD], by simp only [PyData.canLay0]; unfold Rq at r; exact r.2, by simp only [PyData.depth]; omega⟩
  | n, .tup xs, v, h, r => by
    unfold Rq at r
    obtain ⟨a, vs, _, _, rr⟩ := r
    cases n with
    | zero => simp only [plainN] at h; cases h
    | succ n =>
      simp only [plainN] at h
      obtain ⟨ps, e, c, q⟩ := plains_q n xs vs h rr
      exact ⟨.tuple ps, by simp only [pyD, e], by simp only [PyData.canLay0]; exact c, by simp only [PyData.depth]; omega⟩
  | n, .lst xs, v, h, r => by
    unfold Rq at r
    obtain ⟨a, vs, _, _, rr⟩ := r
    cases n with
    | zero => simp only [plainN] at h; cases h
    | succ n =>
      simp only [plainN] at h
      obtain ⟨ps, e, c, q⟩ := plains_q n xs vs h rr
      exact ⟨.list ps, by simp only [pyD, e], by simp only [PyData.canLay0]; exact c, by simp only [PyData.depth]; omega⟩
  | n, .ref _, _, h, _ => by simp only [plainN] at h; cases h
  | n, .ty _, _, h, _ => by simp only [plainN] at h; cases h
  | n, .fn _, _, h, _ => by simp only [plainN] at h; cases h
  | n, .cls _, _, h, _ => by simp only [plainN] at h; cases h
  | n, .scr _, _, h, _ => by simp only [plainN] at h; cases h
  | n, .dct _ _, _, h, _ => by simp only [plainN] at h; cases h
  | n, .dc2 _ _, _, h, _ => by simp only [plainN] at h; cases h
  | n, .ins _ _ _, _, h, _ => by simp only [plainN] at h; cases h
theorem plains_q {m : Wd} : ∀ (n : Nat) (ds : List D) (vs : List V), plainNs n ds = true → Rqs G m ds vs → ∃ ps, pyDs ds = some ps ∧ PyData.canLayAll0 ps = true ∧ PyData.depthAll ps ≤ n
  | n, [], _, _, _ => ⟨[], by simp only [pyDs], by simp only [PyData.canLayAll0], by simp only [PyData.depthAll]; omega⟩
  | n, d :: ds, vs, h, r => by
    unfold Rqs at r
    obtain ⟨v, t, rfl, r1, r2⟩ := r
    simp only [plainNs, Bool.and_eq_true] at h
    obtain ⟨p, e1, c1, q1⟩ := plain_q n d v h.1 r1
    obtain ⟨ps, e2, c2, q2⟩ := plains_q n ds t h.2 r2
    exact ⟨p :: ps, by simp only [pyDs, e1, e2], by simp only [PyData.canLayAll0, c1, c2, Bool.and_self], by simp only [PyData.depthAll]; omega⟩
end
theorem res_reads {pins : List (Addr × Obj)} {σ : L2.St} {F : Addr → Prop} {S : Sto} {H : Hp} {s : Shared} (hK : X.K = G.K) (I : Inv X pins σ H s) (rs : RS G ⟨F, S, H⟩) {d : D} {v : V} {u : Value} {n m : Nat} (r : Rp G ⟨F, S, H⟩ d v) (rv : RelV v u) (h : plainN n (resD m S d) = true) :
    ∃ p as, pyD (resD m S d) = some p ∧ p.canLay0 = true ∧ p.depth ≤ n ∧ Reads s.heap u p as := by
  have rq := res_rq rs m d v r
  obtain ⟨p, e1, c, q⟩ := plain_q n _ v h rq
  obtain ⟨as, ra, _⟩ := reads_q hK I _ v u p rq rv e1
  exact ⟨p, as, e1, c, q, ra⟩
theorem getK_val {m : Wd} (k : Key) : ∀ {ls : List (Key × D)} {vs : List (Key × V)}, vs.map (·.1) = ls.map (·.1) → Rps G m (ls.map (·.2)) (vs.map (·.2)) →
    (getK ls k = none ∧ valV vs k = none) ∨ ∃ d v, getK ls k = some d ∧ valV vs k = some v ∧ Rp G m d v
  | [], [], _, _ => .inl ⟨rfl, rfl⟩
  | [], _ :: _, h, _ => by simp at h
  | _ :: _, [], h, _ => by simp at h
  | (k1, d) :: ls, (k2, v) :: vs, h, r => by
    simp only [List.map_cons, List.cons.injEq] at h
    obtain ⟨rfl, h⟩ := h
    rw [List.map_cons, List.map_cons] at r
    obtain ⟨v', t, e, r1, r2⟩ := Rps.cons.mp r
    injection e with e1 e2
    have r1 : Rp G m d v := by rw [show v = v' from e1]; exact r1
    subst e2
    unfold getK valV
    by_cases hk : k2 = k
    · subst hk
      exact .inr ⟨d, v, by simp, by simp, r1⟩
    · have ih := getK_val k h r2
      unfold getK valV at ih
      simpa [hk] using ih
theorem hits_D {B : Around} (hB : B.units ≤ X.A.units + 2) (hK : X.K = G.K) (hu : X.A.units + 64 < cLine) {pins : List (Addr × Obj)} {σ : L2.St} {F : Addr → Prop} {S : Sto} {H : Hp} {s : Shared} (I : Inv X pins σ H s) (rs : RS G ⟨F, S, H⟩) {ls : List (Key × D)} {vl : List (Key × V)} {vb : List (Key × Value)}
    (hl : vl.map (·.1) = ls.map (·.1)) (rl : Rps G ⟨F, S, H⟩ (ls.map (·.2)) (vl.map (·.2))) (rb : KV vl vb) (pl : ∀ p ∈ ls, plainN 60 (resD 8 S p.2) = true) :
    ∀ {ks : List (Key × D)} {vk : List (Key × V)} {va : List (Key × Value)}, vk.map (·.1) = ks.map (·.1) → Rps G ⟨F, S, H⟩ (ks.map (·.2)) (vk.map (·.2)) → KV vk va → (∀ p ∈ ks, plainN 60 (resD 8 S p.2) = true) →
      PySem.W.KeqHits B s vb va (ks.all fun p => match getK ls p.1 with
        | some u => eqD (resD 8 S p.2) (resD 8 S u)
        | none => false)
  | [], [], va, _, _, ra, _ => by
    unfold KV at ra
    cases ra
    exact .nil
  | [], _ :: _, _, h, _, _, _ => by simp at h
  | _ :: _, [], _, h, _, _, _ => by simp at h
  | (k1, d) :: ks, (k2, v) :: vk, va, h, r, ra, pk => by
    simp only [List.map_cons, List.cons.injEq] at h
    obtain ⟨rfl, h⟩ := h
    rw [List.map_cons, List.map_cons] at r
    obtain ⟨v', t, e, r1, r2⟩ := Rps.cons.mp r
    injection e with e1 e2
    have r1 : Rp G ⟨F, S, H⟩ d v := by rw [show v = v' from e1]; exact r1
    subst e2
    unfold KV at ra
    cases ra with
    | @cons _ q _ qs hq ra =>
      obtain ⟨h1, h2⟩ := hq
      obtain ⟨key, u⟩ := q
      have h1 : k2 = key := h1
      subst h1
      have h2 : RelV v u := h2
      have ih := hits_D hB hK hu I rs hl rl rb pl h r2 ra fun p hp => pk p (List.mem_cons_of_mem _ hp)
      rw [List.all_cons]
      have rr : RelO (valV vl k2) (valueAt vb k2) := rb.val k2
      rcases getK_val k2 hl rl with ⟨g1, g2⟩ | ⟨dd, vv, g1, g2, g3⟩
      · rw [g1]
        dsimp only
        rw [Bool.false_and]
        rw [g2] at rr
        refine .miss ?_
        cases hv : valueAt vb k2 with
        | none => rfl
        | some y => rw [hv] at rr; exact rr.elim
      · rw [g1]
        dsimp only
        rw [g2] at rr
        obtain ⟨y, hy, ry⟩ := rr.some_of
        have hm : ∃ p ∈ ls, p.2 = dd := by
          unfold getK at g1
          cases hf : ls.find? (fun kv => decide (kv.1 = k2)) with
          | none => rw [hf] at g1; cases g1
          | some p =>
            rw [hf] at g1
            exact ⟨p, List.mem_of_find?_eq_some hf, by simpa using g1⟩
        obtain ⟨p0, hp0, rfl⟩ := hm
        have pl2 := pl p0 hp0
        have pk2 := pk (k2, d) (List.mem_cons_self ..)
        obtain ⟨p, as, e1, c1, d1, q1⟩ := res_reads hK I rs r1 h2 pk2
        obtain ⟨p2, bs, e2, c2, d2, q2⟩ := res_reads hK I rs g3 ry pl2
        rw [eqD_py 60 60 _ _ p p2 pk2 pl2 e1 e2]
        exact .hit hy (SeqAt.eqAt_reads p p2 B s u y as bs q1 q2 c1 c2 (by have := Nat.min_le_left p.depth p2.depth; omega)) ih
theorem dct_two {B : Around} (hB : B.units ≤ X.A.units + 2) (hK : X.K = G.K) (hu : X.A.units + 64 < cLine) {pins : List (Addr × Obj)} {σ : L2.St} {F : Addr → Prop} {S : Sto} {H : Hp} {s : Shared} (I : Inv X pins σ H s) (rs : RS G ⟨F, S, H⟩) {a b : D} {x y : V} {v u : Value} {r : Bool} (ra : Rp G ⟨F, S, H⟩ a x) (rb : Rp G ⟨F, S, H⟩ b y) (rx : RelV x v) (ry : RelV y u) (e : dctEq0 S a b = some r) :
    ∃ (pa pb : Addr) (va vb : List (Key × Value)) (r' : Bool), v = .ref pa ∧ u = .ref pb ∧ (pa == sysModules) = false ∧ (pb == sysModules) = false ∧ s.heap.DictOf (mixKind X.prog X.w) pa va ∧ s.heap.DictOf (mixKind X.prog X.w) pb vb ∧ PySem.W.KeqHits B s vb va r' ∧ r = (va.length == vb.length && r') := by
  unfold dctEq0 at e
  split at e
  · rename_i ks ls e1 e2
    split at e
    · rename_i hp
      cases e
      simp only [Bool.and_eq_true, List.all_eq_true] at hp
      obtain ⟨pa, vk, rfl, ha, hk, _, rk⟩ := dv_ok rs ra e1
      obtain ⟨pb, vl, rfl, hb, hl, _, rl⟩ := dv_ok rs rb e2
      cases rx
      cases ry
      obtain ⟨_, ya, va, qa, da⟩ := dk_rd I.hok ha
      obtain ⟨_, yb, vb, qb, db⟩ := dk_rd I.hok hb
      refine ⟨pa, pb, va, vb, _, rfl, rfl, ya, yb, da, db, hits_D hB hK hu I rs hl rl qb hp.2 hk rk qa hp.1, ?_⟩
      have la : va.length = ks.length := by
        have h1 := qa.length
        have h2 := congrArg List.length hk
        simp only [List.length_map] at h2
        omega
      have lb : vb.length = ls.length := by
        have h1 := qb.length
        have h2 := congrArg List.length hl
        simp only [List.length_map] at h2
        omega
      rw [la, lb]
      congr 1
    · cases e
  · cases e
theorem hitsIn {prog : Program} {w : World} {K : Type} [DecidableEq K] {B : Around} {s : Shared} {kb : List (K × Value)} : ∀ {l : List (K × Value)} {r : Bool}, PySem.W.KeqHits B s kb l r → PySem.W.KeqHitsIn prog w B s kb l r
  | _, _, .nil => .nil
  | _, _, .miss h => .miss h
  | _, _, .hit h e t => .hit h (e.inModel prog w) (hitsIn t)
theorem itm_in (hK : X.K = G.K) (hu : X.A.units + 64 < cLine) {pins : List (Addr × Obj)} {σ : L2.St} {F : Addr → Prop} {S : Sto} {H : Hp} {s : Shared} (I : Inv X pins σ H s) (rs : RS G ⟨F, S, H⟩) {a b : D} {x y : V} {v u : Value} (ra : Rp G ⟨F, S, H⟩ a x) (rb : Rp G ⟨F, S, H⟩ b y) (rx : RelV x v) (ry : RelV y u) (e : itmEq S a b = true) :
    SeqAt.EqIn X.prog X.w X.A.in1 s v u true := by
  unfold itmEq at e
  rw [Bool.or_eq_true] at e
  rcases e with e | e
  · rw [Bool.and_eq_true, Bool.and_eq_true] at e
    obtain ⟨⟨h1, h2⟩, h3⟩ := e
    obtain ⟨p, as, e1, c1, d1, r1⟩ := res_reads hK I rs ra rx h1
    obtain ⟨p2, bs, e2, c2, d2, r2⟩ := res_reads hK I rs rb ry h2
    rw [eqD_py 60 60 _ _ p p2 h1 h2 e1 e2] at h3
    have q := SeqAt.eqAt_reads p p2 X.A.in1 s v u as bs r1 r2 c1 c2 (by have := Nat.min_le_left p.depth p2.depth; show X.A.units + 1 + min p.depth p2.depth < cLine; omega)
    rw [h3] at q
    exact q.inModel X.prog X.w
  · have e : dctEq0 S a b = some true := by simpa using e
    obtain ⟨pa, pb, va, vb, r', rfl, rfl, ya, yb, da, db, hh, hr⟩ := dct_two (B := X.A.in1.in1) (by show X.A.units + 1 + 1 ≤ _; omega) hK hu I rs ra rb rx ry e
    by_cases hne : pa = pb
    · subst hne
      exact (SeqAt.EqAt.same _).inModel X.prog X.w
    · refine SeqAt.EqIn.of_refs hne fun E Q hq => PySem.W.keq_eqIn ya yb da db (by show X.A.units + 1 < cLine; omega) (fun _ => hitsIn hh) ?_
      rw [← hr]
      exact hq
theorem lst_in (hK : X.K = G.K) (hu : X.A.units + 64 < cLine) {pins : List (Addr × Obj)} {σ : L2.St} {F : Addr → Prop} {S : Sto} {H : Hp} {s : Shared} (I : Inv X pins σ H s) (rs : RS G ⟨F, S, H⟩) :
    ∀ {xs ys : List D} {vs us : List V} {is js : List Value}, Rps G ⟨F, S, H⟩ xs vs → Rps G ⟨F, S, H⟩ ys us → Vals vs is → Vals us js → lstEq S xs ys = true → is.length = js.length ∧ ∀ j (h1 : j < is.length) (h2 : j < js.length), SeqAt.EqIn X.prog X.w X.A.in1 s is[j] js[j] true
  | [], [], _, _, _, _, r1, r2, v1, v2, _ => by
    cases Rps.nil.mp r1
    cases Rps.nil.mp r2
    cases v1
    cases v2
    exact ⟨rfl, fun j h1 _ => absurd h1 (Nat.not_lt_zero _)⟩
  | [], _ :: _, _, _, _, _, _, _, _, _, e => by unfold lstEq at e; cases e
  | _ :: _, [], _, _, _, _, _, _, _, _, e => by unfold lstEq at e; cases e
  | x :: xs, y :: ys, _, _, _, _, r1, r2, v1, v2, e => by
    obtain ⟨a, t, rfl, a1, a2⟩ := Rps.cons.mp r1
    obtain ⟨b, t2, rfl, b1, b2⟩ := Rps.cons.mp r2
    cases v1 with
    | @cons _ i _ is p1 q1 =>
      cases v2 with
      | @cons _ j _ js p2 q2 =>
        unfold lstEq at e
        rw [Bool.and_eq_true] at e
        obtain ⟨h1, h2⟩ := lst_in hK hu I rs a2 b2 q1 q2 e.2
        refine ⟨by rw [List.length_cons, List.length_cons, h1], fun k k1 k2 => ?_⟩
        cases k with
        | zero => exact itm_in hK hu I rs a1 b1 p1 p2 e.1
        | succ k => exact h2 k (by simpa using k1) (by simpa using k2)
theorem lst_two (hK : X.K = G.K) (hu : X.A.units + 64 < cLine) {pins : List (Addr × Obj)} {σ : L2.St} {F : Addr → Prop} {S : Sto} {H : Hp} {s : Shared} (I : Inv X pins σ H s) (rs : RS G ⟨F, S, H⟩) {a b : D} {x y : V} {v u : Value} {xs ys : List D} (ra : Rp G ⟨F, S, H⟩ a x) (rb : Rp G ⟨F, S, H⟩ b y) (rx : RelV x v) (ry : RelV y u) (e1 : lv S a = some xs) (e2 : lv S b = some ys) (e : lstEq S xs ys = true) :
    ∃ (l m : Addr) (is js : Array Value), v = .ref l ∧ u = .ref m ∧ s.heap.IsList l is ∧ s.heap.IsList m js ∧ is.size = js.size ∧ ∀ j (h1 : j < is.size) (h2 : j < js.size), SeqAt.EqIn X.prog X.w X.A.in1 s is[j] js[j] true := by
  obtain ⟨l, vs, rfl, hq, r⟩ := lv_ok rs ra e1
  obtain ⟨m, us, rfl, hq2, r2⟩ := lv_ok rs rb e2
  obtain rfl : v = Value.ref l := rx
  obtain rfl : u = Value.ref m := ry
  obtain ⟨is, rv, pl, _⟩ := I.list (SqL.of hq)
  obtain ⟨js, rv2, pl2, _⟩ := I.list (SqL.of hq2)
  obtain ⟨h1, h2⟩ := lst_in hK hu I rs r r2 rv rv2 e
  exact ⟨l, m, is.toArray, js.toArray, rfl, rfl, pl.isList, pl2.isList, by simpa using h1, fun j k1 k2 => by simpa using h2 j (by simpa using k1) (by simpa using k2)⟩
theorem sb_eq (hK : X.K = G.K) (hu : X.A.units + 64 < cLine) : OpR X (compareOp .Eq) (L2o G (wpCmp .eq)) := by
  intro pins s σ H x y v u Q I rx ry h
  obtain ⟨a, b, F, S, Qd, rs, ra, rb, hw, fe⟩ := h
  rcases hw with ⟨⟨h1, h2⟩, q⟩ | ⟨⟨h1, h2⟩, q⟩ | ⟨r, hr, q⟩
  · obtain ⟨p, as, e1, c1, d1, r1⟩ := top_reads hK I rs ra rx h1
    obtain ⟨p2, bs, e2, c2, d2, r2⟩ := top_reads hK I rs rb ry h2
    rw [eqD_py 60 60 _ _ p p2 h1 h2 e1 e2] at q
    exact SeqAt.compareEq_reads r1 r2 c1 c2 (by have := Nat.min_le_left p.depth p2.depth; omega) ⟨.bl _, H, I, rfl, fe _ F S _ H (TK.refl _) rs (Rp.bl.mpr rfl) q⟩
  · obtain ⟨p, as, e1, c1, d1, r1⟩ := res_reads hK I rs ra rx h1
    obtain ⟨p2, bs, e2, c2, d2, r2⟩ := res_reads hK I rs rb ry h2
    rw [eqD_py 60 60 _ _ p p2 h1 h2 e1 e2] at q
    exact SeqAt.compareEq_reads r1 r2 c1 c2 (by have := Nat.min_le_left p.depth p2.depth; omega) ⟨.bl _, H, I, rfl, fe _ F S _ H (TK.refl _) rs (Rp.bl.mpr rfl) q⟩
  · unfold dctEq at hr
    split at hr
    case h_2 =>
      split at hr
      case h_2 => cases hr
      rename_i xs ys e1 e2
      split at hr
      case isFalse => cases hr
      rename_i e3
      cases hr
      obtain ⟨l, m, is, js, rfl, rfl, hl, hm, hz, he⟩ := lst_two hK hu I rs ra rb rx ry e1 e2 e3
      refine SeqAt.rcIn_lists (e := fun _ => true) hl hm hz (by omega) he ?_
      rw [show (List.range is.size).all (fun _ => true) = true by simp]
      exact ⟨.bl _, H, I, rfl, fe _ F S _ H (TK.refl _) rs (Rp.bl.mpr rfl) q⟩
    rename_i r0 hr0
    cases hr
    obtain ⟨pa, pb, va, vb, r', rfl, rfl, ya, yb, da, db, hh, rfl⟩ := dct_two (B := X.A.in1) (by show X.A.units + 1 ≤ _; omega) hK hu I rs ra rb rx ry hr0
    exact PySem.W.keq_eq ya yb da db (by omega) (fun _ => hh) ⟨.bl _, H, I, rfl, fe _ F S _ H (TK.refl _) rs (Rp.bl.mpr rfl) q⟩
theorem sb_ne (hK : X.K = G.K) (hu : X.A.units + 64 < cLine) : OpR X (compareOp .NotEq) (L2o G (wpCmp .ne)) := by
  intro pins s σ H x y v u Q I rx ry h
  obtain ⟨a, b, F, S, Qd, rs, ra, rb, hw, fe⟩ := h
  rcases hw with ⟨⟨h1, h2⟩, q⟩ | ⟨⟨h1, h2⟩, q⟩ | ⟨r, hr, q⟩
  · obtain ⟨p, as, e1, c1, d1, r1⟩ := top_reads hK I rs ra rx h1
    obtain ⟨p2, bs, e2, c2, d2, r2⟩ := top_reads hK I rs rb ry h2
    rw [eqD_py 60 60 _ _ p p2 h1 h2 e1 e2] at q
    exact SeqAt.compareNe_reads r1 r2 c1 c2 (by have := Nat.min_le_left p.depth p2.depth; omega) ⟨.bl _, H, I, rfl, fe _ F S _ H (TK.refl _) rs (Rp.bl.mpr rfl) q⟩
  · obtain ⟨p, as, e1, c1, d1, r1⟩ := res_reads hK I rs ra rx h1
    obtain ⟨p2, bs, e2, c2, d2, r2⟩ := res_reads hK I rs rb ry h2
    rw [eqD_py 60 60 _ _ p p2 h1 h2 e1 e2] at q
    exact SeqAt.compareNe_reads r1 r2 c1 c2 (by have := Nat.min_le_left p.depth p2.depth; omega) ⟨.bl _, H, I, rfl, fe _ F S _ H (TK.refl _) rs (Rp.bl.mpr rfl) q⟩
  · unfold dctEq at hr
    split at hr
    case h_2 =>
      split at hr
      case h_2 => cases hr
      rename_i xs ys e1 e2
      split at hr
      case isFalse => cases hr
      rename_i e3
      cases hr
      obtain ⟨l, m, is, js, rfl, rfl, hl, hm, hz, he⟩ := lst_two hK hu I rs ra rb rx ry e1 e2 e3
      refine L4N.rcNeIn_lists (e := fun _ => true) hl hm hz (by omega) he ?_
      rw [show (List.range is.size).all (fun _ => true) = true by simp]
      exact ⟨.bl _, H, I, rfl, fe _ F S _ H (TK.refl _) rs (Rp.bl.mpr rfl) q⟩
    rename_i r0 hr0
    cases hr
    obtain ⟨pa, pb, va, vb, r', rfl, rfl, ya, yb, da, db, hh, rfl⟩ := dct_two (B := X.A.in1) (by show X.A.units + 1 ≤ _; omega) hK hu I rs ra rb rx ry hr0
    exact PySem.W.keq_ne ya yb da db (by omega) (fun _ => hh) ⟨.bl _, H, I, rfl, fe _ F S _ H (TK.refl _) rs (Rp.bl.mpr rfl) q⟩

theorem sb_add (hK : X.K = G.K) {fz : Bool} : OpR X (binaryOp .Add) (L2o G (wpBin .add fz)) := by
  intro pins s σ H x y v u Q I rx ry h
  obtain ⟨a, b, F, S, Qd, rs, ra, rb, hw, fe⟩ := h
  unfold wpBin at hw
  dsimp only at hw
  split at hw
  · cases Rp.int.mp ra
    cases Rp.int.mp rb
    exact op_add pins s σ H _ _ v u Q I rx ry ⟨_, _, rfl, rfl, fe _ F S _ H (TK.refl _) rs (Rp.int.mpr rfl) hw⟩
  · obtain ⟨rfl, s1⟩ := Rp.str.mp ra
    obtain ⟨rfl, s2⟩ := Rp.str.mp rb
    exact op_add_str pins s σ H _ _ v u Q I rx ry ⟨_, _, rfl, rfl, line_ok hw.1, fe _ F S _ H (TK.refl _) rs (Rp.str.mpr ⟨rfl, sok_append s1 s2⟩) hw.2⟩
  · rename_i xs ys
    obtain ⟨p, vs, rfl, hq, _, r1⟩ := Rp.tup.mp ra
    obtain ⟨q, ws, rfl, hq2, _, r2⟩ := Rp.tup.mp rb
    obtain ⟨⟨n1, hl⟩, hw⟩ := hw
    have m1 : vs ≠ [] := fun z => n1 (List.length_eq_zero_iff.mp (by rw [r1.len, z]; rfl))
    have z2 : ws = [] → ys = [] := fun z => List.length_eq_zero_iff.mp (by rw [r2.len, z]; rfl)
    exact op_catT pins s σ H _ _ v u Q I rx ry ⟨p, q, vs, ws, rfl, rfl, by rw [hK]; exact hq.sq, by rw [hK]; exact hq2.sq, fun z => absurd z m1, by rw [← r1.len, ← r2.len]; exact line_ok hl, fun z => fe _ F S _ H (TK.refl _) rs (by rw [z2 z, List.append_nil]; exact ra) hw, fun z t ht => newT_ok rs (r1.append r2) fe hw t ht⟩
  · split at hw
    · rename_i xs ys e1 e2
      obtain ⟨p, vs, rfl, h1, r1⟩ := lv_ok rs ra e1
      obtain ⟨q, ws, rfl, h2, r2⟩ := lv_ok rs rb e2
      exact op_cat pins s σ H _ _ v u Q I rx ry ⟨p, q, vs, ws, rfl, rfl, h1, h2, by rw [← r1.len, ← r2.len]; exact line_ok hw.1, newL_ok rs (r1.append r2) fe hw.2⟩
    · exact hw.elim
theorem sb_sub {fz : Bool} : OpR X (binaryOp .Sub) (L2o G (wpBin .sub fz)) := by
  intro pins s σ H x y v u Q I rx ry h
  obtain ⟨a, b, F, S, Qd, rs, ra, rb, hw, fe⟩ := h
  unfold wpBin at hw
  dsimp only at hw
  split at hw
  · cases Rp.int.mp ra
    cases Rp.int.mp rb
    exact op_sub pins s σ H _ _ v u Q I rx ry ⟨_, _, rfl, rfl, fe _ F S _ H (TK.refl _) rs (Rp.int.mpr rfl) hw⟩
  · exact hw.elim
theorem repS_succ (z : Str) (n : Nat) : repS z (n + 1) = repS z n ++ z := by
  unfold repS
  rw [List.replicate_succ', List.foldl_append]
  rfl
theorem repS_len (z : Str) : ∀ n, (repS z n).length = n * z.length
  | 0 => by rw [Nat.zero_mul]; rfl
  | n + 1 => by rw [repS_succ, strLen_append, repS_len z n, Nat.succ_mul]
theorem sok_repS {z : Str} (h : sok z) : ∀ n, sok (repS z n)
  | 0 => sok_all.mpr fun c hc => nomatch (show c ∈ ([] : List Nat) from hc)
  | n + 1 => by rw [repS_succ]; exact sok_append (sok_repS h n) h
theorem op_repS : OpR X (binaryOp .Mult) (fun x y H Q => ∃ z k, x = .str z ∧ y = .int k ∧ (2 ≤ k ∧ k ≤ 1000 ∧ 1 ≤ z.length ∧ z.length ≤ 1000) ∧ Q (.str (repS z k.toNat)) H) := by
  intro pins s σ H x y v u Q I rx ry h
  obtain ⟨z, k, rfl, rfl, ⟨h1, h2, h3, h4⟩, q⟩ := h
  obtain ⟨t, rfl⟩ := rx
  obtain ⟨t2, rfl⟩ := ry
  have hn : ¬ k < 1 := by omega
  have hf : (k == 1 || z.length == 0) = false := by
    rw [Bool.or_eq_false_iff, beq_eq_false_iff_ne, beq_eq_false_iff_ne]
    omega
  have hm : z.length * k.toNat ≤ 1000000 := Nat.le_trans (Nat.mul_le_mul h4 (show k.toNat ≤ 1000 by omega)) (by decide)
  refine PySem.P.mul_str ?_ (fun _ _ => ?_) (fun _ _ => ?_) ?_
  · rw [decide_eq_false (by omega), decide_eq_false (by omega)]
    rfl
  · have : (1000 : Int) ≤ (2 ^ 63 - 1) / k := by
      rw [Int.le_ediv_iff_mul_le (by omega)]
      omega
    omega
  · show decide (z.length * k.toNat > sizeLine) = false
    rw [sizeLine_eq]
    exact decide_eq_false (by omega)
  · rw [if_neg hn, hf, if_neg (by decide)]
    refine ⟨?_, .str (repS z k.toNat), H, I.tok _, ⟨_, rfl⟩, q⟩
    rw [sizeLine_eq]
    show (repS z k.toNat).length ≤ _
    rw [repS_len, Nat.mul_comm]
    omega
theorem sb_mul (hK : X.K = G.K) {fz : Bool} : OpR X (binaryOp .Mult) (L2o G (wpBin .mul fz)) := by
  intro pins s σ H x y v u Q I rx ry h
  obtain ⟨a, b, F, S, Qd, rs, ra, rb, hw, fe⟩ := h
  unfold wpBin at hw
  dsimp only at hw
  split at hw
  · cases Rp.int.mp ra
    cases Rp.int.mp rb
    refine op_mulW pins s σ H _ _ v u Q I rx ry ⟨_, _, rfl, rfl, ?_, fe _ F S _ H (TK.refl _) rs (Rp.int.mpr rfl) hw.2⟩
    have h1 := lt_two_log (by omega) hw.1.1
    have h2 := lt_two_log (by omega) hw.1.2
    unfold CMulW
    omega
  · rename_i xs k
    cases Rp.int.mp rb
    obtain ⟨p, vs, rfl, hq, _, r1⟩ := Rp.tup.mp ra
    obtain ⟨⟨n1, h1, h2, hl⟩, hw⟩ := hw
    exact op_repT pins s σ H _ _ v u Q I rx ry ⟨p, k, vs, rfl, rfl, by rw [hK]; exact hq.sq, fun z => n1 (List.length_eq_zero_iff.mp (by rw [r1.len, z]; rfl)), h1, h2, by rw [← r1.len]; exact hl, newT_ok rs (Rps.flat r1 _) fe hw⟩
  · rename_i z k
    obtain ⟨rfl, sz⟩ := Rp.str.mp ra
    cases Rp.int.mp rb
    exact op_repS pins s σ H _ _ v u Q I rx ry ⟨z, k, rfl, rfl, hw.1, fe _ F S _ H (TK.refl _) rs (Rp.str.mpr ⟨rfl, sok_repS sz _⟩) hw.2⟩
  · rename_i k _ _ _
    cases Rp.int.mp rb
    split at hw
    · rename_i xs e1
      obtain ⟨p, vs, rfl, g1, r1⟩ := lv_ok rs ra e1
      obtain ⟨⟨h1, h2, h3⟩, hw⟩ := hw
      exact op_rep pins s σ H _ _ v u Q I rx ry ⟨p, k, vs, rfl, rfl, g1, by omega, by omega, by rw [← r1.len]; exact line_ok h3, newL_ok rs (Rps.flat r1 _) fe hw⟩
    · exact hw.elim
  · exact hw.elim
theorem sb_mod {fz : Bool} : OpR X (binaryOp .Mod) (L2o G (wpBin .mod fz)) := by
  intro pins s σ H x y v u Q I rx ry h
  obtain ⟨a, b, F, S, Qd, rs, ra, rb, hw, fe⟩ := h
  unfold wpBin at hw
  dsimp only at hw
  split at hw
  · cases Rp.int.mp ra
    cases Rp.int.mp rb
    exact op_modN pins s σ H _ _ v u Q I rx ry ⟨_, _, rfl, rfl, hw.1, fe _ F S _ H (TK.refl _) rs (Rp.int.mpr rfl) hw.2⟩
  · exact hw.elim
theorem op_fdivX : OpR X (binaryOp .FloorDiv) (rI (fun _ j => j ≠ 0 ∧ j.natAbs < 2 ^ 8900) fun i j => .int (i.fdiv j)) := opI fun _ j _ _ _ _ _ hc q =>
  floordiv_int hc.1 q (.inl (PyProof.noPylong_of_log2 (Nat.lt_trans (lt_two_log (by omega) hc.2) (by omega))))
theorem sb_fdiv {fz : Bool} : OpR X (binaryOp .FloorDiv) (L2o G (wpBin .fdiv fz)) := by
  intro pins s σ H x y v u Q I rx ry h
  obtain ⟨a, b, F, S, Qd, rs, ra, rb, hw, fe⟩ := h
  unfold wpBin at hw
  dsimp only at hw
  split at hw
  · cases Rp.int.mp ra
    cases Rp.int.mp rb
    exact op_fdivX pins s σ H _ _ v u Q I rx ry ⟨_, _, rfl, rfl, hw.1, fe _ F S _ H (TK.refl _) rs (Rp.int.mpr rfl) hw.2⟩
  · exact hw.elim
theorem sb_pow {fz : Bool} : OpR X (binaryOp .Pow) (L2o G (wpBin .pow fz)) := by
  intro pins s σ H x y v u Q I rx ry h
  obtain ⟨a, b, F, S, Qd, rs, ra, rb, hw, fe⟩ := h
  unfold wpBin at hw
  dsimp only at hw
  split at hw
  · cases Rp.int.mp ra
    cases Rp.int.mp rb
    exact op_pow pins s σ H _ _ v u Q I rx ry ⟨_, _, rfl, rfl, ⟨hw.1.1, by have := hw.1.2.1; omega, hw.1.2.2⟩, fe _ F S _ H (TK.refl _) rs (Rp.int.mpr rfl) hw.2⟩
  · exact hw.elim

theorem valV_getK {κ : Type} [DecidableEq κ] {m : Wd} : ∀ {vs : List (κ × V)} {kvs : List (κ × D)}, vs.map (·.1) = kvs.map (·.1) → Rps G m (kvs.map (·.2)) (vs.map (·.2)) → ∀ k, (getK kvs k = none ∧ valV vs k = none) ∨ ∃ d v, getK kvs k = some d ∧ valV vs k = some v ∧ Rp G m d v
  | [], [], _, _, k => .inl ⟨rfl, rfl⟩
  | [], _ :: _, e, _, _ => by simp at e
  | _ :: _, [], e, _, _ => by simp at e
  | (j, v) :: vs, (i, d) :: kvs, e, r, k => by
    simp only [List.map_cons, List.cons.injEq] at e
    obtain ⟨e1, e2⟩ := e
    subst e1
    obtain ⟨v', t, e3, r1, r2⟩ := Rps.cons.mp r
    simp only [List.map_cons, List.cons.injEq] at e3
    obtain ⟨e3, e4⟩ := e3
    subst e3; subst e4
    by_cases hk : j = k
    · refine .inr ⟨d, v, ?_, valV_pos hk, r1⟩
      unfold getK
      rw [List.find?_cons_of_pos (by simpa using hk)]
      rfl
    · have h1 : getK ((j, d) :: kvs) k = getK kvs k := by
        unfold getK
        rw [List.find?_cons_of_neg (by simpa using hk)]
      rw [h1, valV_neg (p := (j, v)) hk]
      exact valV_getK e2 r2 k
theorem getK_key2 : ∀ (kvs : List ((Int × Str) × D)) (k : Int × Str), getK (kvs.map fun x => (key2 x.1, x.2)) (key2 k) = getK kvs k
  | [], k => rfl
  | (j, d) :: kvs, k => by
    have inj : key2 j = key2 k ↔ j = k := by
      unfold key2
      constructor
      · intro h
        simp only [List.cons.injEq, Sum.inl.injEq, Sum.inr.injEq, and_true] at h
        exact Prod.ext h.1 h.2
      · intro h; rw [h]
    unfold getK
    rw [List.map_cons]
    by_cases h : j = k
    · rw [List.find?_cons_of_pos (by simpa using inj.mpr h), List.find?_cons_of_pos (by simpa using h)]
      rfl
    · rw [List.find?_cons_of_neg (by simpa using fun z => h (inj.mp z)), List.find?_cons_of_neg (by simpa using h)]
      exact getK_key2 kvs k
theorem keyD_ok {m : Wd} {d : D} {v : V} {k : Key} (r : Rp G m d v) (e : keyD d = some k) : v = kV k := by
  unfold keyD at e
  split at e <;> cases e
  · exact Rp.int.mp r
  · exact (Rp.str.mp r).1
theorem keyD2_ok {m : Wd} {d : D} {v : V} {k : Int × Str} (r : Rp G m d v) (e : keyD2 d = some k) : ∃ b, v = .ref b ∧ m.H b = some (.tup ((key2 k).map kV)) ∧ d = dKey2 k ∧ sok k.2 := by
  unfold keyD2 at e
  split at e
  · split at e
    · rename_i i x
      cases e
      obtain ⟨a, xs, rfl, hq, hk, rr⟩ := Rp.tup.mp r
      have hh := hk rfl
      obtain ⟨v1, v2, rfl, r1, r2⟩ := rr.two
      cases Rp.int.mp r1
      obtain ⟨rfl, hs⟩ := Rp.str.mp r2
      exact ⟨a, rfl, hh, rfl, hs⟩
    · cases e
  · cases e

theorem dget_ok {F : Addr → Prop} {S : Sto} {H : Hp} {d kd : D} {v kv : V} {kvs : List (Key × D)} {k : Key} (rs : RS G ⟨F, S, H⟩) (r : Rp G ⟨F, S, H⟩ d v) (e : dv S d = some kvs) (rk : Rp G ⟨F, S, H⟩ kd kv) (ek : keyD kd = some k) :
    ∃ a o, v = .ref a ∧ DGet H a kv o ∧ ((getK kvs k = none ∧ o = none) ∨ ∃ x w, getK kvs k = some x ∧ o = some w ∧ Rp G ⟨F, S, H⟩ x w) := by
  obtain ⟨a, vs, rfl, h1, h2, _, rr⟩ := dv_ok rs r e
  cases keyD_ok rk ek
  refine ⟨a, valV vs k, rfl, .inl ⟨vs, k, h1, rfl, rfl⟩, ?_⟩
  exact valV_getK h2 rr k
theorem dget2_ok {F : Addr → Prop} {S : Sto} {H : Hp} {d kd : D} {v kv : V} {kvs : List ((Int × Str) × D)} {k : Int × Str} (rs : RS G ⟨F, S, H⟩) (r : Rp G ⟨F, S, H⟩ d v) (e : dv2 S d = some kvs) (rk : Rp G ⟨F, S, H⟩ kd kv) (ek : keyD2 kd = some k) :
    ∃ a o, v = .ref a ∧ DGet H a kv o ∧ ((getK kvs k = none ∧ o = none) ∨ ∃ x w, getK kvs k = some x ∧ o = some w ∧ Rp G ⟨F, S, H⟩ x w) := by
  obtain ⟨a, vs, rfl, h1, h2, _, rr⟩ := dv2_ok rs r e
  obtain ⟨b, rfl, hb, _, _⟩ := keyD2_ok rk ek
  refine ⟨a, valV vs (key2 k), rfl, .inr ⟨vs, key2 k, b, h1, rfl, hb, rfl⟩, ?_⟩
  have := valV_getK (kvs := kvs.map fun x => (key2 x.1, x.2)) (m := ⟨F, S, H⟩) (G := G) (vs := vs) (by rw [h2, List.map_map]; rfl) (by rw [List.map_map]; exact rr) (key2 k)
  rw [getK_key2] at this
  exact this
theorem isStrs_rps {m : Wd} : ∀ {ds : List D} {vs : List V}, Rps G m ds vs → isStrs ds = true → ∃ ss : List Str, vs = ss.map V.str
  | [], _, r, _ => ⟨[], Rps.nil.mp r⟩
  | d :: ds, _, r, e => by
    obtain ⟨v, t, rfl, r1, r2⟩ := Rps.cons.mp r
    cases d with
    | str i =>
      obtain ⟨rfl, _⟩ := Rp.str.mp r1
      obtain ⟨ss, rfl⟩ := isStrs_rps r2 e
      exact ⟨i :: ss, rfl⟩
    | _ => cases e
theorem strsAre_mem {us : List Value} {ss : List Str} (h : StrsAre us ss) : ∀ u ∈ us, ∃ y t, u = Value.str y t := by
  induction h with
  | nil => intro u hu; cases hu
  | cons y t _ ih =>
    intro u hu
    rcases List.mem_cons.mp hu with rfl | hu
    · exact ⟨y, t, rfl⟩
    · exact ih u hu
theorem inC_cases {S : Sto} {a b : D} {K : Bool → Prop} (h : inC a b S K) :
    (∃ ys, sv S b = some ys ∧ (((dv S a).isSome = true ∧ isStrs ys = true) ∧ K false)) ∨
    (∃ ys, sv S b = some ys ∧ (plainN 60 (topD S a) = true ∧ plainNs 59 ys = true) ∧ K (ys.any fun y => eqD y (topD S a))) ∨
    (∃ kvs k, dv S b = some kvs ∧ keyD a = some k ∧ K (getK kvs k).isSome) ∨ (∃ kvs k, dv2 S b = some kvs ∧ keyD2 a = some k ∧ K (getK kvs k).isSome) ∨
    (∃ i j, a = .str i ∧ b = .str j ∧ K (!(Builtin.Str.occurrences j i 0 j.length 1).isEmpty)) := by
  unfold inC at h
  split at h
  · rename_i ys e
    rcases h with h | h
    · exact .inr (.inl ⟨ys, e, h.1, h.2⟩)
    · exact .inl ⟨ys, e, h⟩
  · split at h
    · rename_i kvs e
      split at h
      · rename_i k ek
        exact .inr (.inr (.inl ⟨kvs, k, e, ek, h⟩))
      · exact h.elim
    · split at h
      · rename_i kvs e
        split at h
        · rename_i k ek
          exact .inr (.inr (.inr (.inl ⟨kvs, k, e, ek, h⟩)))
        · exact h.elim
      · split at h
        · exact .inr (.inr (.inr (.inr ⟨_, _, rfl, rfl, h⟩)))
        · exact h.elim

theorem seq_reads {pins : List (Addr × Obj)} {σ : L2.St} {F : Addr → Prop} {S : Sto} {H : Hp} {s : Shared} (hK : X.K = G.K) (I : Inv X pins σ H s) (rs : RS G ⟨F, S, H⟩) {d : D} {v : V} {u : Value} {n : Nat} {ys : List D} (r : Rp G ⟨F, S, H⟩ d v) (rv : RelV v u) (e : sv S d = some ys) (h : plainNs n ys = true) :
    ∃ ps as, pyDs ys = some ps ∧ PyData.canLayAll0 ps = true ∧ PyData.depthAll ps ≤ n ∧ (Reads s.heap u (.list ps) as ∨ Reads s.heap u (.tuple ps) as) := by
  obtain ⟨a, vs, rfl, hq, rr⟩ := sv_ok rs r e
  cases rv
  obtain ⟨ps, e3, c, q⟩ := plains_py n ys vs h rr
  rcases hq with hq | hq
  · obtain ⟨its, rv2, ⟨o, m, ho, hcl, hdi, hd2⟩, _⟩ := I.list (a := a) (xs := vs) (by rw [hK]; exact hq)
    obtain ⟨as, ra, _⟩ := readsAll_of hK I ys vs its ps rr rv2 e3
    exact ⟨ps, a :: as, e3, c, q, .inl (.list ho hcl hd2 ra)⟩
  · obtain ⟨its, rv2, ⟨o, ho, hcl, m, hd2⟩, _⟩ := I.tuple (a := a) (xs := vs) (by rw [hK]; exact hq)
    obtain ⟨as, ra, _⟩ := readsAll_of hK I ys vs its ps rr rv2 e3
    exact ⟨ps, as, e3, c, q, .inr (.tuple ho hcl hd2 ra)⟩
theorem any_py {n m : Nat} {a : D} {p : PyData} (h1 : plainN n a = true) (e1 : pyD a = some p) : ∀ {ys : List D} {ps : List PyData}, plainNs m ys = true → pyDs ys = some ps → (ys.any fun y => eqD y a) = ps.any fun z => PyData.eqv z p
  | [], ps, _, e => by simp only [pyDs] at e; cases e; rfl
  | y :: ys, ps, h, e => by
    simp only [pyDs] at e
    split at e <;> cases e
    rename_i q qs f1 f2
    simp only [plainNs, Bool.and_eq_true] at h
    rw [List.any_cons, List.any_cons, eqD_py m n y a q p h.1 h1 f1 e1, any_py h1 e1 h.2 f2]
theorem sb_in (hK : X.K = G.K) (hu : X.A.units + 64 < cLine) : OpR X (compareOp .In) (L2o G (wpCmp .isin)) := by
  intro pins s σ H x y v u Q I rx ry h
  obtain ⟨a, b, F, S, Qd, rs, ra, rb, hw, fe⟩ := h
  have fin : ∀ c, Qd (.bl c) S → Q (.bl c) H := fun c q => fe _ F S _ H (TK.refl _) rs (Rp.bl.mpr rfl) q
  rcases inC_cases (K := fun c => Qd (.bl c) S) hw with ⟨ys, e, ⟨p1, p2⟩, q⟩ | ⟨ys, e, ⟨p1, p2⟩, q⟩ | ⟨kvs, k, e, ek, q⟩ | ⟨kvs, k, e, ek, q⟩ | ⟨i, j, rfl, rfl, q⟩
  · obtain ⟨b2, vs, rfl, hq, rr⟩ := sv_ok rs rb e
    cases ry
    obtain ⟨ss, rfl⟩ := isStrs_rps rr p2
    cases e3 : dv S a with
    | none => rw [e3] at p1; cases p1
    | some kvs =>
      obtain ⟨p, vk, rfl, hp, _, _, _⟩ := dv_ok rs ra e3
      cases rx
      obtain ⟨_, _, vv, _, dd⟩ := dk_rd I.hok hp
      have ty := dd.typeIs
      obtain ⟨o, es, ep, ho, hx, hd, _⟩ := dd
      have he : ∀ (its : Array Value), StrsAre its.toList ss → ∀ z ∈ its, SeqAt.EqAt X.A.in1 s z (.ref p) ((fun _ => false) z) := fun its hs z hz => by
        obtain ⟨y, t, rfl⟩ := strsAre_mem hs z (Array.mem_toList_iff.mpr hz)
        exact L4N.EqAt_str_dict y t ho hx hd ty (by show X.A.units + 1 < cLine; omega)
      have z0 : ∀ its : Array Value, its.any (fun _ => false) = false := fun its => by simp
      rcases hq with hq | hq
      · obtain ⟨its, rv2, pl, _⟩ := I.list (a := b2) (xs := ss.map V.str) (by rw [hK]; exact hq)
        exact SeqAt.in_listAt (fun _ => false) pl.isList (he its.toArray (by simpa using L2.strsAre_of rv2)) (by rw [z0]; exact ⟨.bl _, H, I, rfl, fin _ q⟩)
      · obtain ⟨its, rv2, pl, _⟩ := I.tuple (a := b2) (xs := ss.map V.str) (by rw [hK]; exact hq)
        exact SeqAt.in_tupleAt (fun _ => false) pl (he its.toArray (by simpa using L2.strsAre_of rv2)) (by rw [z0]; exact ⟨.bl _, H, I, rfl, fin _ q⟩)
  · obtain ⟨d, as, e1, c1, d1, r1⟩ := top_reads hK I rs ra rx p1
    obtain ⟨ps, bs, e2, c2, d2, r2⟩ := seq_reads hK I rs rb ry e p2
    rw [any_py p1 e1 p2 e2] at q
    rcases r2 with r2 | r2
    · exact SeqAt.in_list_reads r2 r1 c2 c1 (by have := Nat.min_le_right (PyData.depthAll ps) d.depth; omega) ⟨.bl _, H, I, rfl, fin _ q⟩
    · exact SeqAt.in_tuple_reads r2 r1 c2 c1 (by have := Nat.min_le_right (PyData.depthAll ps) d.depth; omega) ⟨.bl _, H, I, rfl, fin _ q⟩
  · obtain ⟨p, o, rfl, g, hh⟩ := dget_ok rs rb e ra ek
    cases ry
    refine d_in (by omega) I g rx fun s' I' => ⟨.bl _, H, I', rfl, fin _ ?_⟩
    rcases hh with ⟨h1, h2⟩ | ⟨x', w, h1, h2, _⟩
    · rw [h1] at q; rw [h2]; exact q
    · rw [h1] at q; rw [h2]; exact q
  · obtain ⟨p, o, rfl, g, hh⟩ := dget2_ok rs rb e ra ek
    cases ry
    refine d_in (by omega) I g rx fun s' I' => ⟨.bl _, H, I', rfl, fin _ ?_⟩
    rcases hh with ⟨h1, h2⟩ | ⟨x', w, h1, h2, _⟩
    · rw [h1] at q; rw [h2]; exact q
    · rw [h1] at q; rw [h2]; exact q
  · cases (Rp.str.mp ra).1
    cases (Rp.str.mp rb).1
    exact op_in_str pins s σ H _ _ v u Q I rx ry ⟨i, j, rfl, rfl, fin _ q⟩
theorem sb_notin (hK : X.K = G.K) (hu : X.A.units + 64 < cLine) : OpR X (compareOp .NotIn) (L2o G (wpCmp .notin)) := by
  intro pins s σ H x y v u Q I rx ry h
  obtain ⟨a, b, F, S, Qd, rs, ra, rb, hw, fe⟩ := h
  have fin : ∀ c, Qd (.bl c) S → Q (.bl c) H := fun c q => fe _ F S _ H (TK.refl _) rs (Rp.bl.mpr rfl) q
  rcases inC_cases (K := fun c => Qd (.bl (!c)) S) hw with ⟨ys, e, ⟨p1, p2⟩, q⟩ | ⟨ys, e, ⟨p1, p2⟩, q⟩ | ⟨kvs, k, e, ek, q⟩ | ⟨kvs, k, e, ek, q⟩ | ⟨i, j, rfl, rfl, q⟩
  · obtain ⟨b2, vs, rfl, hq, rr⟩ := sv_ok rs rb e
    cases ry
    obtain ⟨ss, rfl⟩ := isStrs_rps rr p2
    cases e3 : dv S a with
    | none => rw [e3] at p1; cases p1
    | some kvs =>
      obtain ⟨p, vk, rfl, hp, _, _, _⟩ := dv_ok rs ra e3
      cases rx
      obtain ⟨_, _, vv, _, dd⟩ := dk_rd I.hok hp
      have ty := dd.typeIs
      obtain ⟨o, es, ep, ho, hx, hd, _⟩ := dd
      have he : ∀ (its : Array Value), StrsAre its.toList ss → ∀ z ∈ its, SeqAt.EqAt X.A.in1 s z (.ref p) ((fun _ => false) z) := fun its hs z hz => by
        obtain ⟨y, t, rfl⟩ := strsAre_mem hs z (Array.mem_toList_iff.mpr hz)
        exact L4N.EqAt_str_dict y t ho hx hd ty (by show X.A.units + 1 < cLine; omega)
      have z0 : ∀ its : Array Value, its.any (fun _ => false) = false := fun its => by simp
      rcases hq with hq | hq
      · obtain ⟨its, rv2, pl, _⟩ := I.list (a := b2) (xs := ss.map V.str) (by rw [hK]; exact hq)
        exact SeqAt.notIn_listAt (fun _ => false) pl.isList (he its.toArray (by simpa using L2.strsAre_of rv2)) (by rw [z0]; exact ⟨.bl _, H, I, rfl, fin _ q⟩)
      · obtain ⟨its, rv2, pl, _⟩ := I.tuple (a := b2) (xs := ss.map V.str) (by rw [hK]; exact hq)
        exact SeqAt.notIn_tupleAt (fun _ => false) pl (he its.toArray (by simpa using L2.strsAre_of rv2)) (by rw [z0]; exact ⟨.bl _, H, I, rfl, fin _ q⟩)
  · obtain ⟨d, as, e1, c1, d1, r1⟩ := top_reads hK I rs ra rx p1
    obtain ⟨ps, bs, e2, c2, d2, r2⟩ := seq_reads hK I rs rb ry e p2
    rw [any_py p1 e1 p2 e2] at q
    rcases r2 with r2 | r2
    · exact SeqAt.notIn_list_reads r2 r1 c2 c1 (by have := Nat.min_le_right (PyData.depthAll ps) d.depth; omega) ⟨.bl _, H, I, rfl, fin _ q⟩
    · exact SeqAt.notIn_tuple_reads r2 r1 c2 c1 (by have := Nat.min_le_right (PyData.depthAll ps) d.depth; omega) ⟨.bl _, H, I, rfl, fin _ q⟩
  · obtain ⟨p, o, rfl, g, hh⟩ := dget_ok rs rb e ra ek
    cases ry
    refine d_notIn (by omega) I g rx fun s' I' => ⟨.bl _, H, I', rfl, fin _ ?_⟩
    rcases hh with ⟨h1, h2⟩ | ⟨x', w, h1, h2, _⟩
    · rw [h1] at q; rw [h2]; exact q
    · rw [h1] at q; rw [h2]; exact q
  · obtain ⟨p, o, rfl, g, hh⟩ := dget2_ok rs rb e ra ek
    cases ry
    refine d_notIn (by omega) I g rx fun s' I' => ⟨.bl _, H, I', rfl, fin _ ?_⟩
    rcases hh with ⟨h1, h2⟩ | ⟨x', w, h1, h2, _⟩
    · rw [h1] at q; rw [h2]; exact q
    · rw [h1] at q; rw [h2]; exact q
  · cases (Rp.str.mp ra).1
    cases (Rp.str.mp rb).1
    exact op_notIn_str pins s σ H _ _ v u Q I rx ry ⟨i, j, rfl, rfl, fin _ q⟩
theorem isNo_rp {m : Wd} {a : D} {x : V} (r : Rp G m a x) : decide (x = .non) = isNo a := by
  cases a
  · cases Rp.non.mp r; rfl
  · cases Rp.bl.mp r; rfl
  · cases Rp.int.mp r; rfl
  · cases (Rp.str.mp r).1; rfl
  · cases Rp.ref.mp r; rfl
  · cases Rp.ty.mp r; rfl
  · cases Rp.fn.mp r; rfl
  · cases Rp.cls.mp r; rfl
  · obtain ⟨p, vs, rfl, _⟩ := Rp.tup.mp r; rfl
  · obtain ⟨p, vs, rfl, _⟩ := Rp.lst.mp r; rfl
  · obtain ⟨p, vs, rfl, _⟩ := Rp.scr.mp r; rfl
  · obtain ⟨p, _, vs, rfl, _⟩ := Rp.dct.mp r; rfl
  · obtain ⟨p, _, vs, rfl, _⟩ := Rp.dc2.mp r; rfl
  · obtain ⟨p, _, vs, rfl, _⟩ := Rp.ins.mp r; rfl
theorem sb_is : OpR X (compareOp .Is) (L2o G (wpCmp .is_)) := by
  intro pins s σ H x y v u Q I rx ry h
  obtain ⟨a, b, F, S, Qd, rs, ra, rb, hw, fe⟩ := h
  unfold wpCmp at hw
  dsimp only at hw
  split at hw
  · cases Rp.non.mp rb
    exact op_isN pins s σ H _ _ v u Q I rx ry ⟨rfl, by rw [isNo_rp ra]; exact fe _ F S _ H (TK.refl _) rs (Rp.bl.mpr rfl) hw⟩
  · cases Rp.bl.mp rb
    split at hw
    · cases Rp.bl.mp ra
      cases (show v = _ from rx)
      cases (show u = _ from ry)
      exact is_bool (fin_bl I (fe _ F S _ H (TK.refl _) rs (Rp.bl.mpr rfl) hw) rfl)
    · exact hw.elim
  · exact hw.elim
theorem sb_isnot : OpR X (compareOp .IsNot) (L2o G (wpCmp .isnot)) := by
  intro pins s σ H x y v u Q I rx ry h
  obtain ⟨a, b, F, S, Qd, rs, ra, rb, hw, fe⟩ := h
  unfold wpCmp at hw
  dsimp only at hw
  split at hw
  · cases Rp.non.mp rb
    exact op_notN pins s σ H _ _ v u Q I rx ry ⟨rfl, by rw [isNo_rp ra]; exact fe _ F S _ H (TK.refl _) rs (Rp.bl.mpr rfl) hw⟩
  · cases Rp.bl.mp rb
    split at hw
    · cases Rp.bl.mp ra
      cases (show v = _ from rx)
      cases (show u = _ from ry)
      exact isnot_bool (fin_bl I (fe _ F S _ H (TK.refl _) rs (Rp.bl.mpr rfl) hw) rfl)
    · exact hw.elim
  · exact hw.elim
theorem sb_lt : OpR X (compareOp .Lt) (L2o G (wpCmp .lt)) := by
  intro pins s σ H x y v u Q I rx ry h
  obtain ⟨a, b, F, S, Qd, rs, ra, rb, hw, fe⟩ := h
  unfold wpCmp at hw
  dsimp only at hw
  split at hw
  · cases Rp.int.mp ra
    cases Rp.int.mp rb
    exact op_lt pins s σ H _ _ v u Q I rx ry ⟨_, _, rfl, rfl, fe _ F S _ H (TK.refl _) rs (Rp.bl.mpr rfl) hw⟩
  · cases (Rp.str.mp ra).1
    cases (Rp.str.mp rb).1
    exact op_lt_str pins s σ H _ _ v u Q I rx ry ⟨_, _, rfl, rfl, fe _ F S _ H (TK.refl _) rs (Rp.bl.mpr rfl) hw⟩
  · exact hw.elim
theorem sb_le : OpR X (compareOp .LtE) (L2o G (wpCmp .le)) := by
  intro pins s σ H x y v u Q I rx ry h
  obtain ⟨a, b, F, S, Qd, rs, ra, rb, hw, fe⟩ := h
  unfold wpCmp at hw
  dsimp only at hw
  split at hw
  · cases Rp.int.mp ra
    cases Rp.int.mp rb
    exact op_le pins s σ H _ _ v u Q I rx ry ⟨_, _, rfl, rfl, fe _ F S _ H (TK.refl _) rs (Rp.bl.mpr rfl) hw⟩
  · exact hw.elim
theorem sb_gt : OpR X (compareOp .Gt) (L2o G (wpCmp .gt)) := by
  intro pins s σ H x y v u Q I rx ry h
  obtain ⟨a, b, F, S, Qd, rs, ra, rb, hw, fe⟩ := h
  unfold wpCmp at hw
  dsimp only at hw
  split at hw
  · cases Rp.int.mp ra
    cases Rp.int.mp rb
    exact op_gt pins s σ H _ _ v u Q I rx ry ⟨_, _, rfl, rfl, fe _ F S _ H (TK.refl _) rs (Rp.bl.mpr rfl) hw⟩
  · exact hw.elim
theorem sb_ge : OpR X (compareOp .GtE) (L2o G (wpCmp .ge)) := by
  intro pins s σ H x y v u Q I rx ry h
  obtain ⟨a, b, F, S, Qd, rs, ra, rb, hw, fe⟩ := h
  unfold wpCmp at hw
  dsimp only at hw
  split at hw
  · cases Rp.int.mp ra
    cases Rp.int.mp rb
    exact op_ge pins s σ H _ _ v u Q I rx ry ⟨_, _, rfl, rfl, fe _ F S _ H (TK.refl _) rs (Rp.bl.mpr rfl) hw⟩
  · exact hw.elim

theorem Rps.atI {m : Wd} {ds : List D} {vs : List V} {i : Int} {d : D} (r : Rps G m ds vs) (h : L2.atI ds i = some d) : ∃ v, L2.atI vs i = some v ∧ Rp G m d v := by
  unfold L2.atI at h ⊢
  rw [← r.len]
  cases e : ixN ds.length i with
  | none => rw [e] at h; cases h
  | some j =>
    rw [e] at h
    exact r.get (i := j) h
theorem atI_mem {α : Type} {xs : List α} {i : Int} {x : α} (h : L2.atI xs i = some x) : x ∈ xs := by
  unfold L2.atI at h
  cases e : ixN xs.length i with
  | none => rw [e] at h; cases h
  | some j =>
    rw [e] at h
    exact List.mem_of_getElem? h
end
end L4

namespace L4
open PySem PySem.Spec PyProof.Rows L2
section
variable {prog : Program} {w : World} {A : Around} {E : Value → Shared → Prop} {s : Shared} {l : Addr}
theorem max_tupI {xs : Array (Int × Tok)} {Q : Value → Shared → Prop} (hh : A.handled = none) (hl : s.heap.IsTuple l (intItems xs)) (hne : 0 < xs.size)
    (h : ∀ v h' tk, (intItems xs)[argBest (fun i j => decide (numAt xs i > numAt xs j)) (xs.size - 1)]? = some v → (∀ b o, s.heap.get? b = some o → h'.get? b = some o) → Q v { s with heap := h', toks := tk }) :
    wpAny (model prog w) A (call (.builtin "max") [.ref l]) Q E s := by
  have lt : l < s.heap.objs.size := by
    obtain ⟨_, e, _⟩ := hl
    exact Heap.lt_size e
  refine call_max_walk (wpAny_pyIter_tuple hl ⟨_, _, _, _, _, _, _, rfl, Walks.tuple (A := A.in1) hh _ l (Nat.ne_of_lt lt) (intItems xs), ⟨⟨_, Heap.get?_push_size _ rfl, rfl, rfl⟩, hl.push _⟩, fun b hb => ?_, by simpa [intItems] using hne, CmpOf.ints_gt (numAt xs) (fun _ _ => intItems_at), fun v h' tk hP hk => ?_⟩)
  · show b < (s.heap.push _).objs.size
    rw [Heap.size_push]
    simp only [List.mem_cons, List.not_mem_nil, or_false] at hb
    rcases hb with rfl | rfl
    · exact Nat.lt_succ_self _
    · exact Nat.lt_succ_of_lt lt
  · refine h v h' tk (by simpa [intItems] using hP) fun b o e => hk b o (fun hm => ?_) (Heap.get?_push_of_some _ e)
    simp only [List.mem_cons, List.not_mem_nil, or_false] at hm
    exact absurd (Heap.lt_size e) (by rw [hm]; exact Nat.lt_irrefl _)
end
theorem cr_maxT {X : Cx} (hc : X.calm = true) : CallR X (.builtin "max") (fun vs H Q => ∃ (a : Addr) (ns : List Int), vs = [V.ref a] ∧ SqT X.K H a (ns.map V.int) ∧ 0 < ns.length ∧ ∀ m, m ∈ ns → (∀ y, y ∈ ns → y ≤ m) → Q (.int m) H) := by
  intro pins s σ H vs us Q I r h
  obtain ⟨a, ns, rfl, hs, hne, q⟩ := h
  obtain ⟨its, rv, hl, _⟩ := I.tuple hs
  rw [Vals.ref1 r]
  obtain ⟨xs, e⟩ := rv.ints.allInts.items
  have hn : numsOf (intItems xs).toList = ns := by rw [← e]; exact rv.ints.numsOf
  rw [nums_intItems] at hn
  subst hn
  rw [e] at hl
  have hsz : 0 < xs.size := by simpa using hne
  refine max_tupI (I.ok.hd hc) hl hsz fun v h' tk hv hk => ?_
  obtain ⟨t, rfl⟩ := intItems_at hv
  obtain ⟨h1, h2⟩ := argBest_gt (numAt xs) (xs.size - 1)
  refine ⟨.int _, H, I.kept hk, ⟨_, rfl⟩, q _ ?_ fun b hb => ?_⟩
  · rw [numAt_eq]
    exact PySem.getD_mem (by rw [List.length_map, Array.length_toList]; omega)
  · obtain ⟨j, hj, rfl⟩ := mem_getD hb
    rw [List.length_map, Array.length_toList] at hj
    rw [← numAt_eq]
    exact h2 j (by omega)
end L4

namespace L4
open PySem PySem.Spec PyProof.Rows L2
section
variable {X : Cx} {G : Gd}

theorem ix_dict (hu : X.A.units + 64 < cLine) : IxR X (fun x y H Q => ∃ a v, x = .ref a ∧ DGet H a y (some v) ∧ Q v H) := by
  intro value slice pins s σ H x y v u Q I rx ry h hs
  obtain ⟨a, w, rfl, g, q⟩ := h
  cases rx
  have hT := dict_typeIs I g
  unfold subscriptTail
  refine wpAny_bind ?_
  rw [getitemInPython_of_ne hT.not_modules]
  refine wpAny_bind (wpAny_specialOf hT PySem.F.slot_dict_getitem.lookup ?_)
  have fin : wpAny (model X.prog X.w) X.A (subscripted slice false (.ref a) u) (fun r s₃ => wpAny (model X.prog X.w) X.A (letTemporaryGo value (.ref a) r >>= fun _ => pure r) (EP X pins σ Q) X.xe s₃) X.xe s := by
    rw [hs]
    exact wpAny_operating (d_getItem (by omega) I g ry fun w' s' I' r => wpAny_bind (wpAny_letTemporaryGo (wpAny_pure ⟨w, H, I', r, q⟩)))
  first
    | exact wpAny_pure (wpAny_bind fin)
    | exact wpAny_bind (wpAny_pure (wpAny_bind fin))
    | exact wpAny_bind fin
theorem sb_idx (hK : X.K = G.K) (hu : X.A.units + 64 < cLine) : IxR X (L2o G wpIdx) := by
  intro value slice pins s σ H x y v u Q I rx ry h hs
  obtain ⟨a, b, F, S, Qd, rs, ra, rb, hw, fe⟩ := h
  have fin : ∀ d w, Rp G ⟨F, S, H⟩ d w → Qd d S → Q w H := fun d w r q => fe d F S w H (TK.refl _) rs r q
  unfold wpIdx at hw
  split at hw
  · rename_i ds e
    split at hw
    · rename_i i
      cases Rp.int.mp rb
      split at hw
      · rename_i d e1
        obtain ⟨p, vs, rfl, hq, r⟩ := sv_ok rs ra e
        obtain ⟨w, e2, r2⟩ := Rps.atI r e1
        rcases hq with hq | hq
        · exact ix_list value slice pins s σ H _ _ v u Q I rx ry ⟨p, vs, i, w, rfl, rfl, by rw [hK]; exact hq, e2, fin d w r2 hw⟩ hs
        · exact ix_tup value slice pins s σ H _ _ v u Q I rx ry ⟨p, vs, i, w, rfl, rfl, by rw [hK]; exact hq, e2, fin d w r2 hw⟩ hs
      · exact hw.elim
    · exact hw.elim
  · split at hw
    · rename_i kvs e
      split at hw
      · rename_i k ek
        split at hw
        · rename_i d e1
          obtain ⟨p, o, rfl, g, hh⟩ := dget_ok rs ra e rb ek
          rcases hh with ⟨h1, _⟩ | ⟨d', w, h1, rfl, r⟩
          · rw [e1] at h1; cases h1
          · rw [e1] at h1; cases h1
            exact ix_dict hu value slice pins s σ H _ _ v u Q I rx ry ⟨p, w, rfl, g, fin d w r hw⟩ hs
        · exact hw.elim
      · exact hw.elim
    · split at hw
      · rename_i kvs e
        split at hw
        · rename_i k ek
          split at hw
          · rename_i d e1
            obtain ⟨p, o, rfl, g, hh⟩ := dget2_ok rs ra e rb ek
            rcases hh with ⟨h1, _⟩ | ⟨d', w, h1, rfl, r⟩
            · rw [e1] at h1; cases h1
            · rw [e1] at h1; cases h1
              exact ix_dict hu value slice pins s σ H _ _ v u Q I rx ry ⟨p, w, rfl, g, fin d w r hw⟩ hs
          · exact hw.elim
        · exact hw.elim
      · split at hw
        · rename_i z i _ _ _
          cases Rp.int.mp rb
          obtain ⟨rfl, hsk⟩ := Rp.str.mp ra
          split at hw
          · rename_i c e1
            exact ix_str value slice pins s σ H _ _ v u Q I rx ry ⟨z, i, c, rfl, rfl, line_ok hw.1, e1, fin _ _ (Rp.str.mpr ⟨rfl, sok_sign hsk (atI_mem e1)⟩) hw.2⟩ hs
          · exact hw.elim
        · exact hw.elim

section
variable {P : Pg} {fz : Bool}
theorem call_lenR : CallR X (.builtin "len") (fun xs H Q => ∃ a kvs, xs = [V.ref a] ∧ Rd H a (.dK kvs) ∧ Q (.int kvs.length) H) := by
  intro pins s σ H xs us Q I rv h
  obtain ⟨a, kvs, rfl, e, q⟩ := h
  obtain ⟨u, rfl, ru⟩ := rv.one
  cases ru
  exact d_len I e fun t s' I' => ⟨.int kvs.length, H, I', ⟨t, rfl⟩, q⟩
theorem call_lenR2 : CallR X (.builtin "len") (fun xs H Q => ∃ (a : Addr) (kvs : List (List Key × V)), xs = [V.ref a] ∧ Rd H a (.dT kvs) ∧ Q (.int ((kvs.length : Nat) : Int)) H) := by
  intro pins s σ H xs us Q I r h
  obtain ⟨p, kvs, rfl, hp, q⟩ := h
  obtain ⟨u, rfl, rx⟩ := vals1 r
  obtain rfl : u = .ref p := rx
  obtain ⟨z, hd, ys, rel, dd⟩ := dt_rd I.hok hp
  have hl : kvs.length = ys.length := Paired.length rel
  refine PySem.call_len_dictH hd dd (by rw [← hl]; rw [sizeLine_eq] at z; omega) ?_
  rw [← hl]
  exact ⟨.int ((kvs.length : Nat) : Int), H, I.tok _, ⟨_, rfl⟩, q⟩
theorem len_map {α β γ : Type} {xs : List α} {ys : List β} {f : α → γ} {g : β → γ} (h : xs.map f = ys.map g) : xs.length = ys.length := by
  have := congrArg List.length h
  simpa using this
theorem sB_len (hK : X.K = G.K) : CallR X (.builtin "len") (LBo G (wpB P .len fz)) := by
  intro pins s σ H xs us Q I rv h
  obtain ⟨as, F, S, Qd, rs, ra, hw, fe⟩ := h
  have fin : ∀ n : Nat, Qd (.int n) S → Q (.int n) H := fun n q => fe _ F S _ H (TK.refl _) rs (Rp.int.mpr rfl) q
  unfold wpB at hw
  dsimp only at hw
  split at hw
  · obtain ⟨v, rfl, r1⟩ := ra.one
    split at hw
    · rename_i ds e
      obtain ⟨p, vs, rfl, hq, r⟩ := sv_ok rs r1 e
      exact call_len_seq pins s σ H _ us Q I rv ⟨p, vs, rfl, by rw [hK]; exact hq, by rw [← r.len]; exact fin _ hw⟩
    · split at hw
      · rename_i kvs e
        obtain ⟨p, vs, rfl, hq, hk, _, r⟩ := dv_ok rs r1 e
        exact call_lenR pins s σ H _ us Q I rv ⟨p, vs, rfl, hq, by rw [len_map hk]; exact fin _ hw⟩
      · split at hw
        · rename_i kvs e
          obtain ⟨p, vs, rfl, hq, hk, _, r⟩ := dv2_ok rs r1 e
          exact call_lenR2 pins s σ H _ us Q I rv ⟨p, vs, rfl, hq, by rw [len_map hk]; exact fin _ hw⟩
        · split at hw
          · obtain ⟨rfl, _⟩ := Rp.str.mp r1
            exact call_len_str pins s σ H _ us Q I rv ⟨_, rfl, line_ok hw.1, fin _ hw.2⟩
          · exact hw.elim
  · exact hw.elim
theorem sB_abs : CallR X (.builtin "abs") (LBo G (wpB P .abs fz)) := by
  intro pins s σ H xs us Q I rv h
  obtain ⟨as, F, S, Qd, rs, ra, hw, fe⟩ := h
  unfold wpB at hw
  dsimp only at hw
  split at hw
  · rename_i i
    obtain ⟨v, rfl, r1⟩ := ra.one
    cases Rp.int.mp r1
    refine call_abs pins s σ H _ us Q I rv ⟨i, rfl, fe _ F S _ H (TK.refl _) rs (Rp.int.mpr ?_) hw⟩
    congr 1
    split <;> omega
  · exact hw.elim
theorem sB_int : CallR X (.type "int") (LBo G (wpB P .int fz)) := by
  intro pins s σ H xs us Q I rv h
  obtain ⟨as, F, S, Qd, rs, ra, hw, fe⟩ := h
  unfold wpB at hw
  dsimp only at hw
  split at hw
  · obtain ⟨v, rfl, r1⟩ := ra.one
    cases Rp.int.mp r1
    exact call_int1 pins s σ H _ us Q I rv (.inl ⟨_, rfl, fe _ F S _ H (TK.refl _) rs (Rp.int.mpr rfl) hw⟩)
  · obtain ⟨v, rfl, r1⟩ := ra.one
    cases Rp.bl.mp r1
    exact call_int1 pins s σ H _ us Q I rv (.inr ⟨_, rfl, fe _ F S _ H (TK.refl _) rs (Rp.int.mpr rfl) hw⟩)
  · obtain ⟨v, rfl, r1⟩ := ra.one
    cases (Rp.str.mp r1).1
    split at hw
    · rename_i n e
      exact call_int_str pins s σ H _ us Q I rv ⟨_, n, rfl, e, hw.1, fe _ F S _ H (TK.refl _) rs (Rp.int.mpr rfl) hw.2⟩
    · exact hw.elim
  · exact hw.elim
theorem sB_max (hc : X.calm = true) : CallR X (.builtin "max") (LBo G (wpB P .max fz)) := by
  intro pins s σ H xs us Q I rv h
  obtain ⟨as, F, S, Qd, rs, ra, hw, fe⟩ := h
  unfold wpB at hw
  dsimp only at hw
  split at hw
  · obtain ⟨v, v', rfl, r1, r2⟩ := ra.two
    cases Rp.int.mp r1
    cases Rp.int.mp r2
    refine call_max2 hc pins s σ H _ us Q I rv ⟨_, _, rfl, fe _ F S _ H (TK.refl _) rs (Rp.int.mpr ?_) hw⟩
    congr 1
    split <;> omega
  · exact hw.elim
theorem sB_min (hc : X.calm = true) : CallR X (.builtin "min") (LBo G (wpB P .min fz)) := by
  intro pins s σ H xs us Q I rv h
  obtain ⟨as, F, S, Qd, rs, ra, hw, fe⟩ := h
  unfold wpB at hw
  dsimp only at hw
  split at hw
  · obtain ⟨v, v', rfl, r1, r2⟩ := ra.two
    cases Rp.int.mp r1
    cases Rp.int.mp r2
    refine call_min2 hc pins s σ H _ us Q I rv ⟨_, _, rfl, fe _ F S _ H (TK.refl _) rs (Rp.int.mpr ?_) hw⟩
    congr 1
    split <;> omega
  · exact hw.elim
theorem intsOf_rps {m : Wd} : ∀ {ds : List D} {vs : List V} {ns : List Int}, Rps G m ds vs → intsOf ds = some ns → vs = ns.map V.int
  | [], _, ns, r, e => by
    rw [Rps.nil.mp r]
    cases Option.some.inj e
    rfl
  | d :: ds, _, ns, r, e => by
    obtain ⟨v, t, rfl, r1, r2⟩ := Rps.cons.mp r
    cases d with
    | int i =>
      cases Rp.int.mp r1
      unfold intsOf at e
      cases e1 : intsOf ds with
      | none => rw [e1] at e; cases e
      | some ms =>
        rw [e1] at e
        cases Option.some.inj e
        rw [intsOf_rps r2 e1]
        rfl
    | _ => cases e
theorem strsOf_rps {m : Wd} : ∀ {ds : List D} {vs : List V} {ns : List Str}, Rps G m ds vs → strsOf ds = some ns → vs = ns.map V.str ∧ ∀ x ∈ ns, sok x
  | [], _, ns, r, e => by
    rw [Rps.nil.mp r]
    cases Option.some.inj e
    exact ⟨rfl, fun _ h => nomatch h⟩
  | d :: ds, _, ns, r, e => by
    obtain ⟨v, t, rfl, r1, r2⟩ := Rps.cons.mp r
    cases d with
    | str i =>
      obtain ⟨rfl, hs⟩ := Rp.str.mp r1
      unfold strsOf at e
      cases e1 : strsOf ds with
      | none => rw [e1] at e; cases e
      | some ms =>
        rw [e1] at e
        cases Option.some.inj e
        obtain ⟨e2, h2⟩ := strsOf_rps r2 e1
        rw [e2]
        exact ⟨rfl, fun x hx => by
          rcases List.mem_cons.mp hx with rfl | hx
          · exact hs
          · exact h2 x hx⟩
    | _ => cases e
theorem allBl_rps {m : Wd} : ∀ {ds : List D} {vs : List V} {bs : List Bool}, Rps G m ds vs → allBl ds = some bs → vs = bs.map V.bl
  | [], _, b, r, e => by
    rw [Rps.nil.mp r]
    cases Option.some.inj e
    rfl
  | d :: ds, _, b, r, e => by
    obtain ⟨v, t, rfl, r1, r2⟩ := Rps.cons.mp r
    cases d with
    | bl c =>
      cases Rp.bl.mp r1
      unfold allBl at e
      cases e1 : allBl ds with
      | none => rw [e1] at e; cases e
      | some c' =>
        rw [e1] at e
        cases Option.some.inj e
        rw [allBl_rps r2 e1]
        rfl
    | _ => cases e
theorem fold_min : ∀ (xs : List Int) (x : Int), (xs.foldl min x ∈ x :: xs) ∧ ∀ y ∈ x :: xs, xs.foldl min x ≤ y
  | [], x => ⟨by simp, fun y hy => by simp at hy; rw [hy]; exact Int.le_refl _⟩
  | z :: xs, x => by
    obtain ⟨h1, h2⟩ := fold_min xs (min x z)
    rw [List.foldl_cons]
    refine ⟨?_, fun y hy => ?_⟩
    · rcases List.mem_cons.mp h1 with h | h
      · rw [h]
        rcases Int.le_total x z with k | k
        · rw [Int.min_eq_left k]; simp
        · rw [Int.min_eq_right k]; simp
      · simp [h]
    · have h3 := h2 (min x z) (by simp)
      rcases List.mem_cons.mp hy with h | h
      · subst h; exact Int.le_trans h3 (Int.min_le_left ..)
      · rcases List.mem_cons.mp h with h | h
        · subst h; exact Int.le_trans h3 (Int.min_le_right ..)
        · exact h2 y (by simp [h])
theorem fold_max : ∀ (xs : List Int) (x : Int), (xs.foldl max x ∈ x :: xs) ∧ ∀ y ∈ x :: xs, y ≤ xs.foldl max x
  | [], x => ⟨by simp, fun y hy => by simp at hy; rw [hy]; exact Int.le_refl _⟩
  | z :: xs, x => by
    obtain ⟨h1, h2⟩ := fold_max xs (max x z)
    rw [List.foldl_cons]
    refine ⟨?_, fun y hy => ?_⟩
    · rcases List.mem_cons.mp h1 with h | h
      · rw [h]
        rcases Int.le_total x z with k | k
        · rw [Int.max_eq_right k]; simp
        · rw [Int.max_eq_left k]; simp
      · simp [h]
    · have h3 := h2 (max x z) (by simp)
      rcases List.mem_cons.mp hy with h | h
      · subst h; exact Int.le_trans (Int.le_max_left ..) h3
      · rcases List.mem_cons.mp h with h | h
        · subst h; exact Int.le_trans (Int.le_max_right ..) h3
        · exact h2 y (by simp [h])
theorem fold_minS_mem : ∀ (xs : List Str) (x : Str), xs.foldl (fun a y => if ltS y a = true then y else a) x ∈ x :: xs
  | [], x => by simp
  | z :: xs, x => by
    have h1 := fold_minS_mem xs (if ltS z x = true then z else x)
    rw [List.foldl_cons]
    rcases List.mem_cons.mp h1 with h | h
    · rw [h]
      split <;> simp
    · simp [h]
theorem sB_minl (hu : X.A.units + 64 < cLine) (hc : X.calm = true) : CallR X (.builtin "min") (LBo G (wpB P .minl fz)) := by
  intro pins s σ H xs us Q I rv h
  obtain ⟨as, F, S, Qd, rs, ra, hw, fe⟩ := h
  unfold wpB at hw
  dsimp only at hw
  split at hw
  · rename_i d
    obtain ⟨v, rfl, r1⟩ := ra.one
    split at hw
    · rename_i ds e1
      split at hw
      · rename_i ns e2
        obtain ⟨p, vs, rfl, h1, r⟩ := lv_ok rs r1 e1
        cases intsOf_rps r e2
        cases ns with
        | nil => exact hw.elim
        | cons n ns =>
          refine cr_min hc pins s σ H _ us Q I rv ⟨p, n :: ns, rfl, SqL.of h1, by simp, fun m hm hle => ?_⟩
          obtain ⟨k1, k2⟩ := fold_min ns n
          have : m = ns.foldl min n := Int.le_antisymm (hle _ k1) (k2 m hm)
          rw [this]
          exact fe _ F S _ H (TK.refl _) rs (Rp.int.mpr rfl) hw
      · split at hw
        · rename_i ss e3
          obtain ⟨p, vs, rfl, h1, r⟩ := lv_ok rs r1 e1
          obtain ⟨rfl, hs⟩ := strsOf_rps r e3
          cases ss with
          | nil => exact hw.elim
          | cons z zs =>
            obtain ⟨its, rv2, hl, _⟩ := I.list (SqL.of h1)
            rw [Vals.ref1 rv]
            refine PySem.W.min_list_datum (I.ok.hd hc) hl.isList (x := z) (xs := zs) (PySem.W.HoldAll.of_strs (by simpa using L2.strsAre_of rv2)) (by show X.A.units + 1 + 0 < cLine; omega) fun i v h' tk hi hv hk => ?_
            obtain ⟨as2, hv2⟩ := hv
            have em : PySem.W.minOf z zs = zs.foldl (fun a y => if ltS y a = true then y else a) z := rfl
            rw [em] at hv2
            have hm := fold_minS_mem zs z
            have hw2 : Qd (.str (zs.foldl (fun a y => if ltS y a = true then y else a) z)) S := hw
            clear hw
            generalize zs.foldl (fun a y => if ltS y a = true then y else a) z = m at hv2 hm hw2
            cases hv2
            exact ⟨.str m, H, I.kept hk, ⟨_, rfl⟩, fe _ F S _ H (TK.refl _) rs (Rp.str.mpr ⟨rfl, hs m hm⟩) hw2⟩
        · exact hw.elim
    · exact hw.elim
  · exact hw.elim
theorem sB_maxl (hK : X.K = G.K) (hc : X.calm = true) : CallR X (.builtin "max") (LBo G (wpB P .maxl fz)) := by
  intro pins s σ H xs us Q I rv h
  obtain ⟨as, F, S, Qd, rs, ra, hw, fe⟩ := h
  unfold wpB at hw
  dsimp only at hw
  split at hw
  · obtain ⟨v, rfl, r1⟩ := ra.one
    split at hw
    · rename_i ds e1
      split at hw
      · rename_i ns e2
        obtain ⟨p, vs, rfl, h1, r⟩ := sv_ok rs r1 e1
        cases intsOf_rps r e2
        cases ns with
        | nil => exact hw.elim
        | cons n ns =>
          have fin : ∀ m, m ∈ n :: ns → (∀ y, y ∈ n :: ns → y ≤ m) → Q (.int m) H := fun m hm hle => by
            obtain ⟨k1, k2⟩ := fold_max ns n
            have : m = ns.foldl max n := Int.le_antisymm (k2 m hm) (hle _ k1)
            rw [this]
            exact fe _ F S _ H (TK.refl _) rs (Rp.int.mpr rfl) hw
          rw [← hK] at h1
          rcases h1 with h1 | h1
          · exact cr_max hc pins s σ H _ us Q I rv ⟨p, n :: ns, rfl, h1, by simp, fin⟩
          · exact cr_maxT hc pins s σ H _ us Q I rv ⟨p, n :: ns, rfl, h1, by simp, fin⟩
      · exact hw.elim
    · exact hw.elim
  · exact hw.elim
theorem dvs_ok {i j : Int} (h : Dvs j) : CDivP i j := ⟨h.1, PyProof.noPylong_of_log2 (Nat.lt_trans (lt_two_log (by decide) h.2) (by decide))⟩
theorem sB_divmod : CallR X (.builtin "divmod") (LBo G (wpB P .divmod fz)) := by
  intro pins s σ H xs us Q I rv h
  obtain ⟨as, F, S, Qd, rs, ra, hw, fe⟩ := h
  unfold wpB at hw
  dsimp only at hw
  split at hw
  · rename_i i j
    obtain ⟨v, v', rfl, r1, r2⟩ := ra.two
    cases Rp.int.mp r1
    cases Rp.int.mp r2
    exact call_divmodW pins s σ H _ us Q I rv ⟨i, j, rfl, dvs_ok hw.1, fun p hp => newT_ok rs (Rps.mk (Rp.int.mpr rfl) (Rps.mk (Rp.int.mpr rfl) Rps.mk0)) fe hw.2 p hp⟩
  · exact hw.elim
theorem sB_all (hc : X.calm = true) : CallR X (.builtin "all") (LBo G (wpB P .all fz)) := by
  intro pins s σ H xs us Q I rv h
  obtain ⟨as, F, S, Qd, rs, ra, hw, fe⟩ := h
  unfold wpB at hw
  dsimp only at hw
  split at hw
  · obtain ⟨v, rfl, r1⟩ := ra.one
    split at hw
    · rename_i ds e
      split at hw
      · rename_i bs e2
        obtain ⟨p, vs, rfl, h1, r⟩ := lv_ok rs r1 e
        cases allBl_rps r e2
        exact cr_all hc pins s σ H _ us Q I rv ⟨p, bs, rfl, SqL.of h1, fe _ F S _ H (TK.refl _) rs (Rp.bl.mpr rfl) hw⟩
      · exact hw.elim
    · exact hw.elim
  · exact hw.elim
theorem sB_any (hc : X.calm = true) : CallR X (.builtin "any") (LBo G (wpB P .any fz)) := by
  intro pins s σ H xs us Q I rv h
  obtain ⟨as, F, S, Qd, rs, ra, hw, fe⟩ := h
  unfold wpB at hw
  dsimp only at hw
  split at hw
  · obtain ⟨v, rfl, r1⟩ := ra.one
    split at hw
    · rename_i ds e
      split at hw
      · rename_i bs e2
        obtain ⟨p, vs, rfl, h1, r⟩ := lv_ok rs r1 e
        cases allBl_rps r e2
        exact cr_any hc pins s σ H _ us Q I rv ⟨p, bs, rfl, SqL.of h1, fe _ F S _ H (TK.refl _) rs (Rp.bl.mpr rfl) hw⟩
      · exact hw.elim
    · exact hw.elim
  · exact hw.elim
theorem small_log {i : Int} (h : i.natAbs < 2 ^ 1900) : i.natAbs.log2 < 1920 := Nat.lt_trans (lt_two_log (by decide) h) (by decide)
theorem sok_ofString (s : String) : sok (Str.ofString s) := by
  rw [sok_all]
  intro c hc
  have : c ∈ s.toList.map (fun c => c.toNat) := by
    have e : (Str.ofString s).cps.toList = s.toList.map (fun c => c.toNat) := PyProof.Rows.signs_ofString s
    rw [e] at hc; exact hc
  obtain ⟨d, _, rfl⟩ := List.mem_map.mp this
  have := d.valid
  rcases this with h | ⟨_, h⟩
  · exact Nat.lt_trans h (by decide)
  · exact h
theorem sok_int (i : Int) : sok (toString i : Str) := sok_ofString _
theorem sB_str : CallR X (.type "str") (LBo G (wpB P .str fz)) := by
  intro pins s σ H xs us Q I rv h
  obtain ⟨as, F, S, Qd, rs, ra, hw, fe⟩ := h
  unfold wpB at hw
  dsimp only at hw
  split at hw
  · obtain ⟨v, rfl, r1⟩ := ra.one
    cases Rp.int.mp r1
    exact call_str_int pins s σ H _ us Q I rv ⟨_, rfl, small_log hw.1, fe _ F S _ H (TK.refl _) rs (Rp.str.mpr ⟨rfl, sok_int _⟩) hw.2⟩
  · obtain ⟨v, rfl, r1⟩ := ra.one
    obtain ⟨rfl, hs⟩ := Rp.str.mp r1
    exact SkE.call_str_str pins s σ H _ us Q I rv ⟨_, rfl, fe _ F S _ H (TK.refl _) rs (Rp.str.mpr ⟨rfl, hs⟩) hw⟩
  · exact hw.elim
end
end
end L4

namespace L4
open PySem PySem.Spec PyProof.Rows L2

theorem char_lt (c : Char) : c.toNat < 0x110000 := by
  have := c.valid
  rcases this with h | ⟨_, h⟩
  · exact Nat.lt_trans h (by decide)
  · exact h
theorem reprChar_lt {q c d : Nat} (hc : c < 0x110000) (h : d ∈ Builtin.Str.reprChar q c) : d < 0x110000 := by
  have hex : ∀ width : Nat, ∀ e ∈ (List.replicate (width - ((Nat.toDigits 16 c).map Char.toNat).length) 48 ++ (Nat.toDigits 16 c).map Char.toNat), e < 0x110000 := by
    intro w e he
    rcases List.mem_append.mp he with z | z
    · rw [(List.mem_replicate.mp z).2]; decide
    · obtain ⟨ch, _, rfl⟩ := List.mem_map.mp z
      exact char_lt ch
  unfold Builtin.Str.reprChar at h
  dsimp only at h
  split at h
  · rcases List.mem_cons.mp h with z | z
    · rw [z]; decide
    · rw [List.mem_singleton.mp z]; exact hc
  split at h
  · simp at h; rcases h with z | z <;> (rw [z]; decide)
  split at h
  · simp at h; rcases h with z | z <;> (rw [z]; decide)
  split at h
  · simp at h; rcases h with z | z <;> (rw [z]; decide)
  split at h
  · rw [List.mem_singleton.mp h]; exact hc
  split at h
  · rcases List.mem_append.mp h with z | z
    · simp at z; rcases z with z | z <;> (rw [z]; decide)
    · exact hex _ d z
  split at h
  · rcases List.mem_append.mp h with z | z
    · simp at z; rcases z with z | z <;> (rw [z]; decide)
    · exact hex _ d z
  · rcases List.mem_append.mp h with z | z
    · simp at z; rcases z with z | z <;> (rw [z]; decide)
    · exact hex _ d z
theorem fold_repr {q : Nat} : ∀ (l : List Nat) (acc : Array Nat), (∀ c ∈ l, c < 0x110000) → (∀ c ∈ acc.toList, c < 0x110000) → ∀ c ∈ (l.foldl (fun out c => out ++ (Builtin.Str.reprChar q c).toArray) acc).toList, c < 0x110000
  | [], acc, _, h => h
  | x :: l, acc, hl, h => fold_repr l _ (fun c hc => hl c (List.mem_cons_of_mem _ hc)) fun c hc => by
    rw [Array.toList_append, List.mem_append] at hc
    rcases hc with z | z
    · exact h c z
    · exact reprChar_lt (hl x (List.mem_cons_self ..)) (by simpa using z)
theorem sok_reprText {x : Str} (h : sok x) : sok (reprText x) := by
  rw [sok_all] at h ⊢
  unfold reprText
  have hq : reprQuote x < 0x110000 := by unfold reprQuote; split <;> decide
  intro c hc
  simp only [Array.toList_push, List.mem_append, List.mem_singleton] at hc
  rcases hc with z | z
  · rw [← Array.foldl_toList] at z
    exact fold_repr x.cps.toList _ h (fun c hc => by simp at hc; rw [hc]; exact hq) c z
  · rw [z]; exact hq
theorem sok_join {sep : Str} (hs : sok sep) {ts : List Str} (h : ∀ t ∈ ts, sok t) : sok (Str.join sep ts) := by
  rw [sok_all] at hs ⊢
  intro c hc
  rcases (PyProof.Rows.mem_join sep c ts).mp hc with ⟨t, ht, q⟩ | ⟨_, q⟩
  · exact sok_all.mp (h t ht) c q
  · exact hs c q
theorem sok_textFrom : ∀ (ts : List Str) (k : Nat) (acc : Str), sok acc → (∀ t ∈ ts, sok t) → sok (textFrom k acc ts)
  | [], k, acc, h, _ => h
  | t :: r, k, acc, h, ht => sok_textFrom r (k + 1) _ (sok_append (sok_append h (by split <;> exact sok_ofString _)) (ht t (List.mem_cons_self ..))) fun u hu => ht u (List.mem_cons_of_mem _ hu)
theorem sok_key {k : Key} (h : ∀ x, k = .inr x → sok x) : sok (keyPy k).shown := by
  cases k with
  | inl i => simp only [keyPy, PyData.shown]; exact sok_int _
  | inr x => simp only [keyPy, PyData.shown]; exact sok_reprText (h x rfl)
theorem sok_kv : ∀ {ks : List Key} {ps : List PyData}, (∀ k ∈ ks, ∀ x, k = .inr x → sok x) → (∀ t ∈ PyData.shownAll ps, sok t) → ∀ t ∈ PyData.shownKv ((ks.map keyPy).zip ps), sok t
  | [], _, _, _, t, ht => by simp [PyData.shownKv] at ht
  | _ :: _, [], _, _, t, ht => by simp [PyData.shownKv] at ht
  | k :: ks, p :: ps, hk, hp, t, ht => by
    simp only [List.map_cons, List.zip_cons_cons, PyData.shownKv] at ht
    rcases List.mem_cons.mp ht with z | z
    · rw [z]
      exact sok_append (sok_append (sok_key (hk k (List.mem_cons_self ..))) (sok_ofString _)) (hp _ (by simp only [PyData.shownAll]; exact List.mem_cons_self ..))
    · exact sok_kv (fun q hq => hk q (List.mem_cons_of_mem _ hq)) (fun u hu => hp u (by simp only [PyData.shownAll]; exact List.mem_cons_of_mem _ hu)) t z
mutual
theorem py_sok {G : Gd} {m : Wd} : ∀ (d : D) (v : V) (p : PyData), Rp G m d v → pyD d = some p → sok p.shown
  | .non, _, p, _, e => by simp only [pyD] at e; cases e; simp only [PyData.shown]; exact sok_ofString _
  | .bl b, _, p, _, e => by simp only [pyD] at e; cases e; simp only [PyData.shown]; cases b <;> exact sok_ofString _
  | .int i, _, p, _, e => by simp only [pyD] at e; cases e; simp only [PyData.shown]; exact sok_int _
  | .str x, _, p, r, e => by simp only [pyD] at e; cases e; simp only [PyData.shown]; exact sok_reprText (Rp.str.mp r).2
  | .tup ds, _, p, r, e => by
    obtain ⟨a, vs, _, _, _, rr⟩ := Rp.tup.mp r
    simp only [pyD] at e
    split at e <;> cases e
    rename_i xs e1
    simp only [PyData.shown]
    exact sok_append (sok_append (sok_ofString _) (sok_join (sok_ofString _) (pys_sok ds vs xs rr e1))) (by split <;> exact sok_ofString _)
  | .lst ds, _, p, r, e => by
    obtain ⟨a, vs, _, _, rr⟩ := Rp.lst.mp r
    simp only [pyD] at e
    split at e <;> cases e
    rename_i xs e1
    simp only [PyData.shown]
    exact sok_append (sok_textFrom _ _ _ (sok_ofString _) (pys_sok ds vs xs rr e1)) (sok_ofString _)
  | .dct ks ds, _, p, r, e => by
    obtain ⟨a, o, kvs, _, _, _, _, hs, rr⟩ := Rp.dct.mp r
    simp only [pyD] at e
    split at e <;> cases e
    rename_i xs e1
    simp only [PyData.shown]
    exact sok_append (sok_append (sok_ofString _) (sok_join (sok_ofString _) (sok_kv (ks := ks) (ps := xs) (fun k hk x z => by subst z; exact hs _ hk) (pys_sok ds _ xs rr e1)))) (sok_ofString _)
  | .ref _, _, _, _, e => by simp only [pyD] at e; cases e
  | .ty _, _, _, _, e => by simp only [pyD] at e; cases e
  | .fn _, _, _, _, e => by simp only [pyD] at e; cases e
  | .cls _, _, _, _, e => by simp only [pyD] at e; cases e
  | .scr _, _, _, _, e => by simp only [pyD] at e; cases e
  | .dc2 _ _, _, _, _, e => by simp only [pyD] at e; cases e
  | .ins _ _ _, _, _, _, e => by simp only [pyD] at e; cases e
theorem pys_sok {G : Gd} {m : Wd} : ∀ (ds : List D) (vs : List V) (ps : List PyData), Rps G m ds vs → pyDs ds = some ps → ∀ t ∈ PyData.shownAll ps, sok t
  | [], _, ps, _, e, t, ht => by simp only [pyDs] at e; cases e; simp only [PyData.shownAll] at ht; cases ht
  | d :: ds, _, ps, r, e, t, ht => by
    obtain ⟨v, vs, rfl, r1, r2⟩ := Rps.cons.mp r
    simp only [pyDs] at e
    split at e <;> cases e
    rename_i p ps' e1 e2
    simp only [PyData.shownAll] at ht
    rcases List.mem_cons.mp ht with z | z
    · rw [z]; exact py_sok d v p r1 e1
    · exact pys_sok ds vs ps' r2 e2 t z
end
mutual
theorem q_sok {G : Gd} {m : Wd} : ∀ (d : D) (v : V) (p : PyData), Rq G m d v → pyD d = some p → sok p.shown
  | .non, _, p, _, e => by simp only [pyD] at e; cases e; simp only [PyData.shown]; exact sok_ofString _
  | .bl b, _, p, _, e => by simp only [pyD] at e; cases e; simp only [PyData.shown]; cases b <;> exact sok_ofString _
  | .int i, _, p, _, e => by simp only [pyD] at e; cases e; simp only [PyData.shown]; exact sok_int _
  | .str x, _, p, r, e => by simp only [pyD] at e; cases e; simp only [PyData.shown]; exact sok_reprText (by unfold Rq at r; exact r.2)
  | .tup ds, _, p, r, e => by
    unfold Rq at r
    obtain ⟨a, vs, _, _, rr⟩ := r
    simp only [pyD] at e
    split at e <;> cases e
    rename_i xs e1
    simp only [PyData.shown]
    exact sok_append (sok_append (sok_ofString _) (sok_join (sok_ofString _) (qs_sok ds vs xs rr e1))) (by split <;> exact sok_ofString _)
  | .lst ds, _, p, r, e => by
    unfold Rq at r
    obtain ⟨a, vs, _, _, rr⟩ := r
    simp only [pyD] at e
    split at e <;> cases e
    rename_i xs e1
    simp only [PyData.shown]
    exact sok_append (sok_textFrom _ _ _ (sok_ofString _) (qs_sok ds vs xs rr e1)) (sok_ofString _)
  | .dct ks ds, _, p, r, e => by
    unfold Rq at r
    obtain ⟨a, kvs, _, _, _, hs, rr⟩ := r
    simp only [pyD] at e
    split at e <;> cases e
    rename_i xs e1
    simp only [PyData.shown]
    exact sok_append (sok_append (sok_ofString _) (sok_join (sok_ofString _) (sok_kv (ks := ks) (ps := xs) (fun k hk x z => by subst z; exact hs _ hk) (qs_sok ds _ xs rr e1)))) (sok_ofString _)
  | .ref _, _, _, _, e => by simp only [pyD] at e; cases e
  | .ty _, _, _, _, e => by simp only [pyD] at e; cases e
  | .fn _, _, _, _, e => by simp only [pyD] at e; cases e
  | .cls _, _, _, _, e => by simp only [pyD] at e; cases e
  | .scr _, _, _, _, e => by simp only [pyD] at e; cases e
  | .dc2 _ _, _, _, _, e => by simp only [pyD] at e; cases e
  | .ins _ _ _, _, _, _, e => by simp only [pyD] at e; cases e
theorem qs_sok {G : Gd} {m : Wd} : ∀ (ds : List D) (vs : List V) (ps : List PyData), Rqs G m ds vs → pyDs ds = some ps → ∀ t ∈ PyData.shownAll ps, sok t
  | [], _, ps, _, e, t, ht => by simp only [pyDs] at e; cases e; simp only [PyData.shownAll] at ht; cases ht
  | d :: ds, _, ps, r, e, t, ht => by
    unfold Rqs at r
    obtain ⟨v, vs, rfl, r1, r2⟩ := r
    simp only [pyDs] at e
    split at e <;> cases e
    rename_i p ps' e1 e2
    simp only [PyData.shownAll] at ht
    rcases List.mem_cons.mp ht with z | z
    · rw [z]; exact q_sok d v p r1 e1
    · exact qs_sok ds vs ps' r2 e2 t z
end
section
variable {X : Cx} {G : Gd} {P : Pg} {fz : Bool}
theorem sB_repr (hK : X.K = G.K) (hm : SmD X.base) (hg : X.A.guards = some []) (hu : X.A.units + 64 < cLine) : CallR X (.builtin "repr") (LBo G (wpB P .repr fz)) := by
  intro pins s σ H xs us Q I rv h
  obtain ⟨as, F, S, Qd, rs, ra, hw, fe⟩ := h
  unfold wpB at hw
  dsimp only at hw
  split at hw
  · rename_i x
    obtain ⟨v, rfl, r1⟩ := ra.one
    obtain ⟨u, rfl, ru⟩ := vals1 rv
    have sm : SmD s.heap := let ⟨o, es, ep, e1, e2⟩ := hm; ⟨o, es, ep, I.bk _ _ e1, e2⟩
    have go : ∀ (p : PyData) (bs : List Addr), (p.showable = true ∧ Line p.shown.length ∧ p.depth ≤ 20) ∧ Qd (.str p.shown) S → Reads s.heap u p bs → sysModules ∉ bs → sok p.shown → wpAny (model X.prog X.w) X.A (call (.builtin "repr") [u]) (EP X pins σ Q) X.xe s := by
      intro p bs hq rr hn hs
      obtain ⟨⟨h1, h2, h3⟩, h5⟩ := hq
      have deep : ∀ (a : Addr) (bs : List Addr), Reads s.heap (.ref a) p bs → sysModules ∉ bs → wpAny (model X.prog X.w) X.A (call (.builtin "repr") [.ref a]) (EP X pins σ Q) X.xe s := fun a bs rr hn =>
        repr_of_reads' rr h1 (fun _ => hn) hg (by omega) (fun _ _ e => e) (fun h' t tk k => ⟨.str p.shown, H, I.kept k, ⟨_, rfl⟩, fe _ F S _ H (TK.refl _) rs (Rp.str.mpr ⟨rfl, hs⟩) h5⟩) (line_ok h2)
      have fin : ∀ t, EP X pins σ Q (.str p.shown t) { s with toks := s.toks + 1 } := fun t => ⟨.str p.shown, H, I.tok _, ⟨_, rfl⟩, fe _ F S _ H (TK.refl _) rs (Rp.str.mpr ⟨rfl, hs⟩) h5⟩
      cases rr with
      | none => exact PySem.P.repr_of_none (by simpa only [PyData.shown] using fin _)
      | bool b => exact PySem.P.repr_of_bool (by simpa only [PyData.shown] using fin _)
      | int i t =>
        simp only [PyData.showable, decide_eq_true_eq] at h1
        exact PySem.P.repr_of_int h1 (by simpa only [PyData.shown] using fin _)
      | str z t => exact PySem.P.repr_of_str (by simpa only [PyData.shown] using fin _) (by have := line_ok h2; simpa only [PyData.shown] using this)
      | list a b c d => exact deep _ _ (.list a b c d) hn
      | tuple a b c d => exact deep _ _ (.tuple a b c d) hn
      | dict a b c d f => exact deep _ _ (.dict a b c d f) hn
    split at hw
    · rename_i p e
      rcases topD_rp rs r1 with e2 | ⟨ys, e2, e3⟩
      · rw [e2] at e
        obtain ⟨bs, rr, hn⟩ := reads_of hK I x v u p r1 ru e
        exact go p bs hw rr (hn sm) (py_sok x v p r1 e)
      · rw [e2] at e
        obtain ⟨a, vs, rfl, g1, rr⟩ := lv_ok rs r1 e3
        cases ru
        simp only [pyD] at e
        split at e <;> cases e
        rename_i ps e4
        obtain ⟨its, rv2, ⟨o, m, ho, hcl, hdi, hd2⟩, _⟩ := I.list (a := a) (xs := vs) (SqL.of g1)
        obtain ⟨as, ra2, hn⟩ := readsAll_of hK I ys vs its ps rr rv2 e4
        exact go _ _ hw (.list ho hcl hd2 ra2) (sm_cons ho hd2 hn sm) (by simp only [PyData.shown]; exact sok_append (sok_textFrom _ _ _ (sok_ofString _) (pys_sok ys vs ps rr e4)) (sok_ofString _))
    · split at hw
      · rename_i p e
        have rq := res_rq rs 8 x v r1
        obtain ⟨bs, rr, hn⟩ := reads_q hK I _ v u p rq ru e
        exact go p bs hw rr (hn sm) (q_sok _ v p rq e)
      · exact hw.elim
  · exact hw.elim

theorem keys_rps {m : Wd} : ∀ {vs : List (Key × V)} {ks : List Key}, vs.map (·.1) = ks → kok ks → Rps G m (ks.map dKey) (vs.map fun kv => kV kv.1)
  | [], ks, e, _ => by subst e; exact Rps.mk0
  | (k, v) :: vs, ks, e, h => by
    subst e
    refine Rps.mk ?_ (keys_rps (ks := vs.map (·.1)) rfl fun x hx => h x (List.mem_cons_of_mem _ hx))
    cases k with
    | inl i => exact Rp.int.mpr rfl
    | inr x => exact Rp.str.mpr ⟨rfl, h x (List.mem_cons_self ..)⟩
theorem key2_rp {m : Wd} {b : Addr} {k : Int × Str} (h : m.H b = some (.tup ((key2 k).map kV))) (hs : sok k.2) : Rp G m (dKey2 k) (.ref b) :=
  Rp.tup_new h (Rps.mk (Rp.int.mpr rfl) (Rps.mk (Rp.str.mpr ⟨rfl, hs⟩) Rps.mk0))
theorem keys2_rps {m : Wd} : ∀ {vs : List (List Key × V)} {bs : List Addr} {ks : List (Int × Str)}, IsKeys m.H vs bs → vs.map (·.1) = ks.map key2 → kok2 ks → Rps G m (ks.map dKey2) (bs.map V.ref)
  | [], bs, ks, h, e, _ => by
    cases h
    cases ks with
    | nil => exact Rps.mk0
    | cons k ks => cases e
  | (k, v) :: vs, bs, ks, h, e, hs => by
    cases ks with
    | nil => cases e
    | cons j ks =>
      simp only [List.map_cons, List.cons.injEq] at e
      cases h with
      | cons h1 h2 =>
        have h1 : m.H _ = some (.tup (k.map kV)) := h1
        rw [e.1] at h1
        exact Rps.mk (key2_rp h1 (hs j (List.mem_cons_self ..))) (keys2_rps h2 e.2 fun x hx => hs x (List.mem_cons_of_mem _ hx))
theorem sB_list (hK : X.K = G.K) (hc : X.calm = true) : CallR X (.type "list") (LBo G (wpB P .list fz)) := by
  intro pins s σ H xs us Q I rv h
  obtain ⟨as, F, S, Qd, rs, ra, hw, fe⟩ := h
  unfold wpB at hw
  dsimp only at hw
  split at hw
  · obtain ⟨v, rfl, r1⟩ := ra.one
    split at hw
    · rename_i ds e
      obtain ⟨p, vs, rfl, hq, r⟩ := sv_ok rs r1 e
      exact call_list_of pins s σ H _ us Q I rv ⟨p, vs, rfl, by rw [hK]; exact hq, newL_ok rs r fe hw⟩
    · split at hw
      · rename_i kvs e
        obtain ⟨p, vs, rfl, hq, hk, ho, r⟩ := dv_ok rs r1 e
        have r2 : Rps G ⟨F, S, H⟩ (kvs.map fun kv => dKey kv.1) (vs.map fun kv => kV kv.1) := by
          have := keys_rps (G := G) (m := ⟨F, S, H⟩) hk ho
          rw [List.map_map] at this
          exact this
        exact call_listD hc pins s σ H _ us Q I rv ⟨p, vs, rfl, hq, newL_ok rs r2 fe hw⟩
      · split at hw
        · rename_i kvs e
          obtain ⟨p, vs, rfl, hq, hk, ho, r⟩ := dv2_ok rs r1 e
          refine call_list_dT hc pins s σ H _ us Q I rv ⟨p, vs, rfl, hq, fun l bs hl hb => ?_⟩
          have r2 : Rps G ⟨F, S, H⟩ (kvs.map fun kv => dKey2 kv.1) (bs.map V.ref) := by
            have := keys2_rps (G := G) (m := ⟨F, S, H⟩) (ks := kvs.map (·.1)) hb (by rw [hk, List.map_map]; rfl) ho
            rw [List.map_map] at this
            exact this
          exact newL_ok rs r2 fe hw l hl
        · exact hw.elim
  · exact hw.elim
theorem sB_tuple (hK : X.K = G.K) : CallR X (.type "tuple") (LBo G (wpB P .tuple fz)) := by
  intro pins s σ H xs us Q I rv h
  obtain ⟨as, F, S, Qd, rs, ra, hw, fe⟩ := h
  unfold wpB at hw
  dsimp only at hw
  split at hw
  · rename_i x
    obtain ⟨v, rfl, r1⟩ := ra.one
    split at hw
    · rename_i ds e
      rcases sv_two rs r1 e with ⟨p, vs, rfl, hq, r⟩ | rfl
      · exact call_tuple_of pins s σ H _ us Q I rv ⟨p, vs, rfl, .inl ⟨by rw [hK]; exact hq, newT_ok rs r fe hw.2⟩⟩
      · obtain ⟨p, vs, rfl, hq, _, r⟩ := Rp.tup.mp r1
        exact call_tuple_of pins s σ H _ us Q I rv ⟨p, vs, rfl, .inr ⟨by rw [hK]; exact hq.sq, fe _ F S _ H (TK.refl _) rs r1 hw.2⟩⟩
    · exact hw.elim
  · exact hw.elim
theorem sB_sum (hc : X.calm = true) : CallR X (.builtin "sum") (LBo G (wpB P .sum fz)) := by
  intro pins s σ H xs us Q I rv h
  obtain ⟨as, F, S, Qd, rs, ra, hw, fe⟩ := h
  unfold wpB at hw
  dsimp only at hw
  split at hw
  · obtain ⟨v, rfl, r1⟩ := ra.one
    split at hw
    · rename_i ds e
      split at hw
      · rename_i ns e2
        obtain ⟨p, vs, rfl, h1, r⟩ := lv_ok rs r1 e
        cases intsOf_rps r e2
        exact cr_sum hc pins s σ H _ us Q I rv ⟨_, ns, rfl, SqL.of h1, fe _ F S _ H (TK.refl _) rs (Rp.int.mpr rfl) hw⟩
      · exact hw.elim
    · exact hw.elim
  · exact hw.elim

theorem ltS_eq (x y : Str) : ltS x y = ltCps x.cps.toList y.cps.toList := PyProof.Rows.lt_meets x y
theorem ltS_tr {x y z : Str} (h : ltS y x = false) (k : ltS z y = false) : ltS z x = false := by
  unfold ltS at *
  rw [decide_eq_false_iff_not] at *
  intro q
  rw [List.not_lt] at h k
  exact absurd (Std.lt_of_lt_of_le (Std.lt_of_lt_of_le q h) k) (List.lt_irrefl _)
theorem ltS_as {x y : Str} (h : ltS y x = false) (k : ltS x y = false) : x = y := by
  unfold ltS at *
  rw [decide_eq_false_iff_not, List.not_lt] at *
  have : x.cps.toList = y.cps.toList := Std.le_antisymm h k
  cases x; cases y
  simp only [Str.mk.injEq]
  exact Array.toList_inj.mp this
theorem ltS_tot (x y : Str) : (!ltS y x || !ltS x y) = true := by
  cases h : ltS y x with
  | false => rfl
  | true =>
    cases k : ltS x y with
    | false => rfl
    | true =>
      unfold ltS at h k
      rw [decide_eq_true_eq] at h k
      exact absurd (Std.lt_trans h k) (List.lt_irrefl _)
theorem sortS_pw (xs : List Str) : (sortS xs).Pairwise (fun a b => (!ltS b a) = true) := List.pairwise_mergeSort (fun a b c h k => by
  rw [Bool.not_eq_true'] at *
  exact ltS_tr h k) (fun a b => ltS_tot a b) xs
theorem rising_pw : ∀ (xs : List Str) (p : Str), risingS p xs = true → (∀ x ∈ xs, ltS x p = false) ∧ xs.Pairwise (fun a b => (!ltS b a) = true)
  | [], p, _ => ⟨fun _ h => (nomatch h), List.Pairwise.nil⟩
  | x :: xs, p, h => by
    unfold risingS at h
    rw [Bool.and_eq_true, Bool.not_eq_true', ← ltS_eq] at h
    obtain ⟨h1, h2⟩ := rising_pw xs x h.2
    refine ⟨fun y hy => ?_, List.Pairwise.cons (fun y hy => by rw [h1 y hy]; rfl) h2⟩
    rcases List.mem_cons.mp hy with rfl | hy
    · exact h.1
    · exact ltS_tr h.1 (h1 y hy)
theorem sorted_is {xs ys : List Str} (hp : ys.Perm xs) (hs : sortedS ys = true) : ys = sortS xs := by
  have pw : ys.Pairwise (fun a b => (!ltS b a) = true) := by
    cases ys with
    | nil => exact .nil
    | cons y ys =>
      obtain ⟨h1, h2⟩ := rising_pw ys y hs
      exact List.Pairwise.cons (fun z hz => by rw [h1 z hz]; rfl) h2
  refine List.Perm.eq_of_pairwise (fun a b _ _ h k => ?_) pw (sortS_pw xs) (hp.trans (List.mergeSort_perm ..).symm)
  rw [Bool.not_eq_true'] at h k
  exact ltS_as h k
theorem sortI_pw (xs : List Int) : (sortI xs).Pairwise (fun a b => decide (a ≤ b) = true) := List.pairwise_mergeSort (fun a b c h k => by
  rw [decide_eq_true_eq] at *
  omega) (fun a b => by
  rw [Bool.or_eq_true, decide_eq_true_eq, decide_eq_true_eq]
  omega) xs
theorem sortedI_is {xs ys : List Int} (hp : ys.Perm xs) (hs : ys.Pairwise (· ≤ ·)) : ys = sortI xs := by
  refine List.Perm.eq_of_pairwise (le := fun a b => decide (a ≤ b) = true) (fun a b _ _ h k => ?_) (hs.imp fun h => decide_eq_true h) (sortI_pw xs) (hp.trans (List.mergeSort_perm ..).symm)
  rw [decide_eq_true_eq] at h k
  omega
theorem strs_rps {m : Wd} : ∀ {xs : List Str}, (∀ x ∈ xs, sok x) → Rps G m (xs.map D.str) (xs.map V.str)
  | [], _ => Rps.mk0
  | x :: xs, h => Rps.mk (Rp.str.mpr ⟨rfl, h x (List.mem_cons_self ..)⟩) (strs_rps fun y hy => h y (List.mem_cons_of_mem _ hy))
theorem ints_rps {m : Wd} : ∀ {xs : List Int}, Rps G m (xs.map D.int) (xs.map V.int)
  | [] => Rps.mk0
  | x :: xs => Rps.mk (Rp.int.mpr rfl) ints_rps
theorem sOfKeys_ok : ∀ {ks : List Key} {ss : List Str}, sOfKeys ks = some ss → ks = ss.map Sum.inr
  | [], ss, e => by cases e; rfl
  | .inr x :: r, ss, e => by
    unfold sOfKeys at e
    cases e1 : sOfKeys r with
    | none => rw [e1] at e; cases e
    | some xs =>
      rw [e1] at e
      cases e
      rw [sOfKeys_ok e1]
      rfl
  | .inl _ :: _, ss, e => by cases e
theorem sortS_sok {xs : List Str} (h : ∀ x ∈ xs, sok x) : ∀ x ∈ sortS xs, sok x := fun x hx => h x ((List.mergeSort_perm xs _).mem_iff.mp hx)

theorem sB_sorted (hc : X.calm = true) : CallR X (.builtin "sorted") (LBo G (wpB P .sorted fz)) := by
  intro pins s σ H xs us Q I rv h
  obtain ⟨as, F, S, Qd, rs, ra, hw, fe⟩ := h
  unfold wpB at hw
  dsimp only at hw
  split at hw
  case h_2 => exact hw.elim
  rename_i d
  obtain ⟨v, rfl, r1⟩ := ra.one
  cases e1 : lv S d with
  | some ds =>
    rw [e1] at hw
    obtain ⟨p, vs, rfl, h1, r⟩ := lv_ok rs r1 e1
    dsimp only at hw
    unfold sortedK at hw
    cases e2 : strsOf ds with
    | some ss =>
      rw [e2] at hw
      obtain ⟨rfl, hs⟩ := strsOf_rps r e2
      refine cr_sortedS pins s σ H _ us Q I rv ⟨p, ss, rfl, SqL.of h1, hw.1, fun ys l hp hsd hl => ?_⟩
      rw [sorted_is hp hsd]
      exact newL_ok rs (strs_rps (sortS_sok hs)) fe hw.2 l hl
    | none =>
      rw [e2] at hw
      dsimp only at hw
      cases e3 : intsOf ds with
      | some ns =>
        rw [e3] at hw
        cases intsOf_rps r e3
        refine cr_sorted pins s σ H _ us Q I rv ⟨p, ns, rfl, SqL.of h1, hw.1, fun ys l hp hsd hl => ?_⟩
        rw [sortedI_is hp hsd]
        exact newL_ok rs ints_rps fe hw.2 l hl
      | none => rw [e3] at hw; exact hw.elim
  | none =>
    rw [e1] at hw
    dsimp only at hw
    split at hw
    · rename_i kvs e
      split at hw
      · rename_i ss e2
        obtain ⟨p, vs, rfl, hq, hk, ho, r⟩ := dv_ok rs r1 e
        have ek := sOfKeys_ok e2
        refine call_sortedD hc pins s σ H _ us Q I rv ⟨p, vs, ss, rfl, hq, by rw [hk]; exact ek, hw.1, fun ys l hp hsd hl => ?_⟩
        rw [sorted_is hp hsd]
        exact newL_ok rs (strs_rps (sortS_sok fun x hx => ho x (by rw [ek]; exact List.mem_map_of_mem hx))) fe hw.2 l hl
      · exact hw.elim
    · exact hw.elim
end
end L4

namespace L4
open PySem PySem.Spec PyProof.Rows L2

noncomputable def tyLs : List String := ["NoneType", "bool", "int", "str", "tuple", "list", "dict"]
noncomputable def clLs : List String := ["int", "bool", "str", "list", "tuple", "dict"]

structure InsT (K : PySem.W.Frag) (C : Addr) : Prop where
  cl : Cls K C
  ha : PySem.W.findIn K (.ref C) "__class__" = some (some (.builtin "object.__class__"))
  hn : PySem.W.specialIn K (.builtin "object.__class__") "__get__" = some (some (.builtin "getset_descriptor.__get__"))
  htk : PySem.W.takesIn K (.builtin "object.__class__") = some true
  hm : PySem.W.mroIn K C (.type "object") = some true
structure IsiF (K : PySem.W.Frag) (G : Gd) (P : Pg) : Prop where
  tc : ∀ t ∈ tyLs, ∀ j, j < P.ncl → PySem.W.kitOne K (.type t) (.ref (G.ca j)) = some false
  ic : ∀ k, (P.ini k).isSome = true → InsT K (G.ca k)
  cc : ∀ k, (P.ini k).isSome = true → ∀ j, j < P.ncl → PySem.W.kitOne K (.ref (G.ca k)) (.ref (G.ca j)) = some (P.sub k j)
  ct : ∀ k, (P.ini k).isSome = true → ∀ u ∈ clLs, PySem.W.kitOne K (.ref (G.ca k)) (.type u) = some false
  nf : ∀ c, c < P.ncl → (∀ t ∈ tyLs, PySem.W.notFirst K (G.ca c) (.type t) = true) ∧ ∀ k, k < P.ncl → (P.sub k c = false ∨ k = c) → PySem.W.notFirst K (G.ca c) (.ref (G.ca k)) = true
  sb : ∀ c, c < P.ncl → (∀ t ∈ ["NoneType", "int", "str", "list", "tuple"], PySem.W.subIn K (.ref (G.ca c)) (.type t) = some false) ∧ PySem.W.subIn K (.ref (G.ca c)) (.type "object") = some true ∧ PySem.W.findIn K (.ref (G.ca c)) "__ne__" = some (some (.builtin "object.__ne__"))
section
variable {X : Cx} {G : Gd} {P : Pg} {fz : Bool}
theorem tyI_ok {F : Addr → Prop} {S : Sto} {H : Hp} (hK : X.K = G.K) (rs : RS G ⟨F, S, H⟩) {d : D} {v : V} {t : String} (r : Rp G ⟨F, S, H⟩ d v) (e : tyI S d = some t) : TyX X.K H v (.type t) ∧ t ∈ tyLs := by
  have lst : ∀ {a : Addr} {xs : List V}, SqL X.K H a xs → TyX X.K H (.ref a) (.type "list") := by
    intro a xs h
    rcases h with (h | ⟨o, h⟩) | ⟨o, its, n, h, hc, _⟩
    · exact .base (.lst h)
    · exact .base (.frz h)
    · exact .kList h hc
  have tup : ∀ {a : Addr} {xs : List V}, SqT X.K H a xs → TyX X.K H (.ref a) (.type "tuple") := by
    intro a xs h
    rcases h with (h | ⟨o, h⟩) | ⟨o, its, n, h, hc, _⟩
    · exact .base (.tup h)
    · exact .fTuple h
    · exact .kTuple h hc
  unfold tyI at e
  cases d <;> simp only [tyD] at e
  · cases Rp.non.mp r; cases e; exact ⟨.base .non, by decide⟩
  · cases Rp.bl.mp r; cases e; exact ⟨.base (.bl _), by decide⟩
  · cases Rp.int.mp r; cases e; exact ⟨.base (.int _), by decide⟩
  · cases (Rp.str.mp r).1; cases e; exact ⟨.base (.str _), by decide⟩
  · cases Rp.ref.mp r
    split at e
    · rename_i e0
      cases e
      obtain ⟨_, vs, h1, _⟩ := rs.st _ _ e0
      exact ⟨lst (SqL.of h1), by decide⟩
    · rename_i e0
      cases e
      obtain ⟨_, vs, h1, _⟩ := rs.st _ _ e0
      exact ⟨.base (.dK h1), by decide⟩
    · rename_i e0
      cases e
      obtain ⟨_, vs, h1, _⟩ := rs.st _ _ e0
      exact ⟨.base (.dT h1), by decide⟩
    · cases e
  · cases e
  · cases e
  · cases e
  · cases e
    obtain ⟨p, vs, rfl, hq, _⟩ := Rp.tup.mp r
    exact ⟨tup (by rw [hK]; exact hq.sq), by decide⟩
  · cases e
    obtain ⟨p, vs, rfl, hq, _⟩ := Rp.lst.mp r
    exact ⟨lst (SqL.of hq.2), by decide⟩
  · cases e
    obtain ⟨p, vs, rfl, hq, _⟩ := Rp.scr.mp r
    exact ⟨lst (by rw [hK]; exact hq.sq), by decide⟩
  · cases e
    obtain ⟨p, o, vs, rfl, _, hq, _⟩ := Rp.dct.mp r
    exact ⟨.fDict hq, by decide⟩
  · cases e
  · cases e
noncomputable def clV (G : Gd) : Cl → Value
  | .ty n => .type n
  | .cls k => .ref (G.ca k)
noncomputable def clOk (P : Pg) : Cl → Prop
  | .ty n => n ∈ clLs
  | .cls k => k < P.ncl
theorem kit_tab : ∀ t ∈ tyLs, ∀ u ∈ clLs, kitB t u = some (isSub t u) := by decide +kernel
theorem kit_anyG {K : PySem.W.Frag} {t : Value} {f : Cl → Bool} : ∀ us : List Cl, (∀ u ∈ us, PySem.W.kitOne K t (clV G u) = some (f u)) → PySem.W.kitAny K t (us.map (clV G)) = some (us.any f)
  | [], _ => rfl
  | u :: us, h => by
    have h1 := h u (List.mem_cons_self ..)
    have h2 := kit_anyG (K := K) (t := t) (f := f) us fun w hw => h w (List.mem_cons_of_mem _ hw)
    rw [List.map_cons, List.any_cons]
    cases hb : f u with
    | true => rw [hb] at h1; exact kitAny_cons h1 (fun z => nomatch z) fun _ => rfl
    | false => rw [hb] at h1; exact kitAny_cons h1 (fun _ => h2) fun z => nomatch z
theorem clsOf1_ok {d : D} {n : Cl} (e : clsOf1 P d = some n) : clOk P n ∧ ((∃ t, d = .ty t ∧ n = .ty t) ∨ ∃ k, d = .cls k ∧ n = .cls k) := by
  unfold clsOf1 at e
  split at e
  · split at e
    · rename_i h
      cases e
      exact ⟨h, .inl ⟨_, rfl, rfl⟩⟩
    · cases e
  · split at e
    · rename_i h
      cases e
      exact ⟨h, .inr ⟨_, rfl, rfl⟩⟩
    · cases e
  · cases e
theorem cls_rp {m : Wd} {d : D} {v : V} {n : Cl} (r : Rp G m d v) (h : (∃ t, d = .ty t ∧ n = .ty t) ∨ ∃ k, d = .cls k ∧ n = .cls k) : ClsV v (clV G n) := by
  rcases h with ⟨t, rfl, rfl⟩ | ⟨k, rfl, rfl⟩
  · cases Rp.ty.mp r; exact .ty t
  · cases Rp.cls.mp r; exact .own _
theorem clsOfs_ok {m : Wd} : ∀ {ds : List D} {vs : List V} {ns : List Cl}, Rps G m ds vs → clsOfs P ds = some ns → Paired ClsV vs (ns.map (clV G)) ∧ ∀ u ∈ ns, clOk P u
  | [], _, ns, r, e => by
    rw [Rps.nil.mp r]
    cases Option.some.inj e
    exact ⟨.nil, fun _ h => (nomatch h)⟩
  | d :: ds, _, ns, r, e => by
    obtain ⟨v, t, rfl, r1, r2⟩ := Rps.cons.mp r
    unfold clsOfs at e
    cases e1 : clsOf1 P d with
    | none => rw [e1] at e; cases e
    | some n =>
      cases e2 : clsOfs P ds with
      | none => rw [e1, e2] at e; cases e
      | some ms =>
        rw [e1, e2] at e
        cases Option.some.inj e
        obtain ⟨ho, hh⟩ := clsOf1_ok e1
        obtain ⟨k1, k2⟩ := clsOfs_ok r2 e2
        exact ⟨.cons (cls_rp r1 hh) k1, fun u hu => by
          rcases List.mem_cons.mp hu with rfl | hu
          · exact ho
          · exact k2 u hu⟩
theorem clsOf_cases {d : D} {ns : List Cl} (e : clsOf P d = some ns) : (∃ ds, d = .tup ds ∧ clsOfs P ds = some ns) ∨ ∃ n, clsOf1 P d = some n ∧ ns = [n] := by
  unfold clsOf at e
  split at e
  · exact .inl ⟨_, rfl, e⟩
  · split at e
    · rename_i n h
      cases e
      exact .inr ⟨n, h, rfl⟩
    · cases e
theorem icD_ok {F : Addr → Prop} {S : Sto} {H : Hp} {d : D} {v : V} {k : Nat} (rs : RS G ⟨F, S, H⟩) (r : Rp G ⟨F, S, H⟩ d v) (e : icD S d = some k) : ∃ a dx fs, v = .ref a ∧ H a = some (.ins (G.ca k) dx fs) := by
  unfold icD at e
  split at e
  · cases e
    obtain ⟨a, dx, fs, rfl, _, q, _⟩ := Rp.ins.mp r
    exact ⟨a, dx, fs, rfl, q⟩
  · split at e
    · rename_i e0
      cases e
      cases Rp.ref.mp r
      obtain ⟨_, dx, vs, h1, _⟩ := rs.st _ _ e0
      exact ⟨_, dx, vs, rfl, h1⟩
    · cases e
  · cases e
theorem sB_isi (hK : X.K = G.K) (T : IsiF X.K G P) : CallR X (.builtin "isinstance") (LBo G (wpB P .isi fz)) := by
  intro pins s σ H xs us Q I rv h
  obtain ⟨as, F, S, Qd, rs, ra, hw, fe⟩ := h
  unfold wpB at hw
  dsimp only at hw
  split at hw
  · rename_i x c
    obtain ⟨v, w, rfl, r1, r2⟩ := ra.two
    split at hw
    · rename_i ns e2
      split at hw
      · rename_i b e1
        have fin : Q (.bl b) H := fe _ F S _ H (TK.refl _) rs (Rp.bl.mpr rfl) hw
        have key : ∃ t f, TyX X.K H v t ∧ b = ns.any f ∧ ∀ u, clOk P u → PySem.W.kitOne X.K t (clV G u) = some (f u) := by
          unfold isiD at e1
          cases et : tyI S x with
          | some t =>
            rw [et] at e1
            cases e1
            obtain ⟨ty, ht⟩ := tyI_ok hK rs r1 et
            refine ⟨_, isT t, ty, rfl, fun u hu => ?_⟩
            cases u with
            | ty n => exact kit_ty (kit_tab t ht n hu)
            | cls k => exact T.tc t ht k hu
          | none =>
            rw [et] at e1
            dsimp only at e1
            split at e1
            · rename_i k ek
              split at e1
              · rename_i hi
                cases e1
                obtain ⟨a, dx, fs, rfl, q⟩ := icD_ok rs r1 ek
                have ic := T.ic k hi
                refine ⟨_, isC P k, .base (.ins q ic.cl ic.ha ic.hn ic.htk ic.hm), rfl, fun u hu => ?_⟩
                cases u with
                | ty n => exact T.ct k hi n hu
                | cls j => exact T.cc k hi j hu
              · cases e1
            · cases e1
        obtain ⟨t, f, ty, rfl, hk⟩ := key
        rcases clsOf_cases e2 with ⟨ds, rfl, e3⟩ | ⟨n, e3, rfl⟩
        · obtain ⟨tp, vs, rfl, hq, _, r3⟩ := Rp.tup.mp r2
          obtain ⟨k1, k2⟩ := clsOfs_ok r3 e3
          obtain ⟨u1, u2, rfl, g1, g2⟩ := vals2 rv
          cases (show u2 = Value.ref tp from g2)
          obtain ⟨_, Z, p, hx⟩ := kit_of I g1 ty
          obtain ⟨its, rv2, ⟨o, h1, h2, m, h3⟩, _⟩ := I.tuple (a := tp) (xs := vs) (by rw [hK]; exact hq.sq)
          have e4 := ClsV.all k1 rv2
          subst e4
          obtain ⟨oc, od, dt, sl⟩ := o
          simp only at h2 h3
          subst h2 h3
          exact PySem.W.kia_tup Z I.kIn p h1 (kit_anyG ns fun u hu => hk u (k2 u hu)) hx fun tk => ⟨.bl _, H, I.tok tk, rfl, fin⟩
        · obtain ⟨ho, hh⟩ := clsOf1_ok e3
          have fin' : Q (.bl (f n)) H := by
            have : [n].any f = f n := by simp
            rw [this] at fin
            exact fin
          exact call_isi pins s σ H _ us Q I rv ⟨v, w, t, _, f n, rfl, cls_rp r2 hh, ty, hk n ho, fin'⟩
      · exact hw.elim
    · exact hw.elim
  · exact hw.elim
end
end L4

namespace L4
open PySem PySem.Spec PyProof.Rows L2
section
variable {X : Cx} {G : Gd} {P : Pg} {fz : Bool}

theorem putD_ok {κ : Type} [DecidableEq κ] {m : Wd} {k : κ} {d : D} {v : V} (r : Rp G m d v) {vs : List (κ × V)} {kvs : List (κ × D)} (h1 : vs.map (·.1) = kvs.map (·.1)) (h2 : Rps G m (kvs.map (·.2)) (vs.map (·.2))) :
    (putK vs k v).map (·.1) = (putD kvs k d).map (·.1) ∧ Rps G m ((putD kvs k d).map (·.2)) ((putK vs k v).map (·.2)) := by
  have ha : ∀ {vs : List (κ × V)} {kvs : List (κ × D)}, vs.map (·.1) = kvs.map (·.1) → vs.any (fun kv => decide (kv.1 = k)) = kvs.any (fun kv => decide (kv.1 = k)) := by
    intro vs
    induction vs with
    | nil => intro kvs h; cases kvs with
      | nil => rfl
      | cons _ _ => simp at h
    | cons x vs ih => intro kvs h; cases kvs with
      | nil => simp at h
      | cons y kvs =>
        simp only [List.map_cons, List.cons.injEq] at h
        rw [List.any_cons, List.any_cons, h.1, ih h.2]
  have hm : ∀ {vs : List (κ × V)} {kvs : List (κ × D)}, vs.map (·.1) = kvs.map (·.1) → Rps G m (kvs.map (·.2)) (vs.map (·.2)) →
      (vs.map fun kv => if kv.1 = k then (kv.1, v) else kv).map (·.1) = (kvs.map fun kv => if kv.1 = k then (kv.1, d) else kv).map (·.1) ∧
      Rps G m ((kvs.map fun kv => if kv.1 = k then (kv.1, d) else kv).map (·.2)) ((vs.map fun kv => if kv.1 = k then (kv.1, v) else kv).map (·.2)) := by
    intro vs
    induction vs with
    | nil => intro kvs h hr; cases kvs with
      | nil => exact ⟨rfl, Rps.mk0⟩
      | cons _ _ => simp at h
    | cons x vs ih => intro kvs h hr; cases kvs with
      | nil => simp at h
      | cons y kvs =>
        simp only [List.map_cons, List.cons.injEq] at h
        obtain ⟨w, t, e, r1, r2⟩ := Rps.cons.mp hr
        simp only [List.map_cons, List.cons.injEq] at e
        obtain ⟨i1, i2⟩ := ih h.2 (by rw [e.2]; exact r2)
        by_cases hk : x.1 = k
        · have hk' : y.1 = k := by rw [← h.1]; exact hk
          simp only [List.map_cons, if_pos hk, if_pos hk']
          exact ⟨by rw [h.1, i1], Rps.mk r i2⟩
        · have hk' : ¬ y.1 = k := by rw [← h.1]; exact hk
          simp only [List.map_cons, if_neg hk, if_neg hk']
          exact ⟨by rw [h.1, i1], by rw [e.1]; exact Rps.mk r1 i2⟩
  unfold putK putD
  rw [ha h1]
  split
  · exact hm h1 h2
  · rw [List.map_append, List.map_append, List.map_append, List.map_append, h1]
    exact ⟨rfl, h2.append (Rps.mk r Rps.mk0)⟩
theorem putD_keys {κ : Type} [DecidableEq κ] {kvs : List (κ × D)} {k j : κ} {d : D} (h : j ∈ (putD kvs k d).map (·.1)) : j = k ∨ j ∈ kvs.map (·.1) := by
  unfold putD at h
  split at h
  · obtain ⟨x, hx, rfl⟩ := List.mem_map.mp h
    obtain ⟨y, hy, rfl⟩ := List.mem_map.mp hx
    by_cases e : y.1 = k
    · rw [if_pos e]; exact .inl e
    · rw [if_neg e]; exact .inr (List.mem_map_of_mem hy)
  · rw [List.map_append, List.mem_append] at h
    rcases h with h | h
    · exact .inr h
    · simp at h; exact .inl h
theorem keyD_sok {m : Wd} {d : D} {v : V} {k : Key} (r : Rp G m d v) (e : keyD d = some k) : ∀ x, k = .inr x → sok x := by
  unfold keyD at e
  split at e <;> cases e
  · intro x hx; cases hx
  · intro x hx; cases hx; exact (Rp.str.mp r).2
theorem kok_put {kvs : List (Key × D)} {k : Key} {d : D} (h : kok (kvs.map (·.1))) (hk : ∀ x, k = .inr x → sok x) : kok ((putD kvs k d).map (·.1)) := by
  intro x hx
  rcases putD_keys hx with e | e
  · exact hk x e.symm
  · exact h x e
theorem pairsD_ok {F : Addr → Prop} {S : Sto} {H : Hp} : ∀ {ds : List D} {vs : List V} {ps : List (Key × D)}, Rps G ⟨F, S, H⟩ ds vs → pairsD ds = some ps →
    ∃ (as : List Addr) (kvs : List (Key × V)), vs = as.map V.ref ∧ Paired (fun p kv => SqT G.K H p [kV kv.1, kv.2]) as kvs ∧ kvs.map (·.1) = ps.map (·.1) ∧ kok (ps.map (·.1)) ∧ Rps G ⟨F, S, H⟩ (ps.map (·.2)) (kvs.map (·.2))
  | [], _, ps, r, e => by
    unfold pairsD at e; cases e
    rw [Rps.nil.mp r]
    exact ⟨[], [], rfl, .nil, rfl, fun _ h => (nomatch h), Rps.mk0⟩
  | d :: ds, _, ps, r, e => by
    obtain ⟨v, t, rfl, r1, r2⟩ := Rps.cons.mp r
    unfold pairsD at e
    split at e
    · rename_i heq; cases heq
    · rename_i k w r' heq
      cases heq
      split at e
      · rename_i key qs e1 e2
        cases e
        obtain ⟨a, xs, rfl, hq, _, rr⟩ := Rp.tup.mp r1
        obtain ⟨v1, v2, rfl, q1, q2⟩ := rr.two
        cases keyD_ok q1 e1
        obtain ⟨as, kvs, rfl, hp, hk, ho, hr⟩ := pairsD_ok r2 e2
        refine ⟨a :: as, (key, v2) :: kvs, rfl, .cons hq.sq hp, by rw [List.map_cons, List.map_cons, hk], fun x hx => ?_, Rps.mk q2 hr⟩
        rcases List.mem_cons.mp hx with z | z
        · exact keyD_sok q1 e1 x z.symm
        · exact ho x z
      · cases e
    · cases e
theorem mergeD_ok {m : Wd} : ∀ {more : List (Key × D)} {ws : List (Key × V)} {kvs : List (Key × D)} {vs : List (Key × V)}, ws.map (·.1) = more.map (·.1) → kok (more.map (·.1)) → Rps G m (more.map (·.2)) (ws.map (·.2)) → vs.map (·.1) = kvs.map (·.1) → kok (kvs.map (·.1)) → Rps G m (kvs.map (·.2)) (vs.map (·.2)) →
    (mergeK vs ws).map (·.1) = (mergeD kvs more).map (·.1) ∧ kok ((mergeD kvs more).map (·.1)) ∧ Rps G m ((mergeD kvs more).map (·.2)) ((mergeK vs ws).map (·.2))
  | [], [], kvs, vs, _, _, _, h1, h2, h3 => ⟨h1, h2, h3⟩
  | [], _ :: _, _, _, e, _, _, _, _, _ => by simp at e
  | _ :: _, [], _, _, e, _, _, _, _, _ => by simp at e
  | (k, d) :: more, (j, v) :: ws, kvs, vs, e, ho, r, h1, h2, h3 => by
    simp only [List.map_cons, List.cons.injEq] at e
    obtain ⟨e1, e2⟩ := e
    subst e1
    obtain ⟨v', t, e3, r1, r2⟩ := Rps.cons.mp r
    simp only [List.map_cons, List.cons.injEq] at e3
    obtain ⟨e3, e4⟩ := e3
    subst e3; subst e4
    obtain ⟨p1, p2⟩ := putD_ok (k := j) r1 h1 h3
    have := mergeD_ok e2 (fun x hx => ho x (List.mem_cons_of_mem _ hx)) r2 p1 (kok_put h2 fun x hx => ho x (by rw [← hx]; exact List.mem_cons_self ..)) p2
    exact this
theorem sB_dict (hK : X.K = G.K) (hc : X.calm = true) : CallR X (.type "dict") (LBo G (wpB P .dict fz)) := by
  intro pins s σ H xs us Q I rv h
  obtain ⟨as, F, S, Qd, rs, ra, hw, fe⟩ := h
  unfold wpB at hw
  dsimp only at hw
  split at hw
  · obtain ⟨v, rfl, r1⟩ := ra.one
    split at hw
    · rename_i kvs e
      obtain ⟨p, vs, rfl, hq, hk, ho, r⟩ := dv_ok rs r1 e
      exact call_dictD pins s σ H _ us Q I rv ⟨p, vs, rfl, hq, newO_ok (o := .dct kvs) rs (fun q m k hm => ⟨vs, hm, hk, ho, Rps.tk k _ _ r⟩) fe hw⟩
    · split at hw
      · rename_i ds e
        split at hw
        · rename_i ps e2
          obtain ⟨p, vs, rfl, h1, r⟩ := lv_ok rs r1 e
          obtain ⟨bs, kvs, rfl, hp, hk, ho, hr⟩ := pairsD_ok r e2
          refine call_dictP hc pins s σ H _ us Q I rv ⟨p, bs, kvs, rfl, SqL.of h1, by rw [hK]; exact hp, newO_ok (o := .dct (mergeD [] ps)) rs (fun q m k hm => ?_) fe hw⟩
          obtain ⟨m1, m2, m3⟩ := mergeD_ok (kvs := []) (vs := []) hk ho (Rps.tk k _ _ hr) rfl (fun _ h => (nomatch h)) Rps.mk0
          exact ⟨_, hm, m1, m2, m3⟩
        · exact hw.elim
      · exact hw.elim
  · exact hw.elim

noncomputable def LP (G : Gd) (w : D → D → D → Sto → (Sto → Prop) → Prop) : TSet := fun x y z H R => ∃ a i d F S K, RS G ⟨F, S, H⟩ ∧ Rp G ⟨F, S, H⟩ a x ∧ Rp G ⟨F, S, H⟩ i y ∧ Rp G ⟨F, S, H⟩ d z ∧ w a i d S K ∧ (∀ S' H', TK ⟨F, S, H⟩ ⟨F, S', H'⟩ → RS G ⟨F, S', H'⟩ → K S' → R H')
theorem sb_put (hu : X.A.units + 64 < cLine) : PSet X (LP G wpPut) := by
  intro pins s σ H x y z u v w R I rx ry rz h
  obtain ⟨a, i, d, F, S, K, rs, ra, ri, rd, hw, fe⟩ := h
  have hq : ∀ H' s', Inv X pins σ H' s' → R H' → ∃ H', Inv X pins σ H' s' ∧ R H' := fun H' s' I' q => ⟨H', I', q⟩
  unfold wpPut at hw
  split at hw
  · rename_i p
    cases Rp.ref.mp ra
    cases rx
    split at hw
    · rename_i ds e
      obtain ⟨nf, vs, h1, r⟩ := rs.st p _ e
      split at hw
      · rename_i j
        cases Rp.int.mp ri
        split at hw
        · rename_i n en
          have k : TK ⟨F, S, H⟩ ⟨F, S.set p (.lst (ds.set n d)), L2.upd H p (.lst (vs.set n z))⟩ := TK.put rs e
          exact set_list pins s σ H (.ref p) (.int j) z _ _ _ R I rfl ry rz ⟨p, vs, j, n, rfl, rfl, h1, by rw [← r.len]; exact en, fe _ _ k (rs.put e ⟨_, upd_same, Rps.tk k.toRK _ _ (Rps.set rd n r)⟩) hw⟩
        · exact hw.elim
      · exact hw.elim
    · rename_i kvs e
      obtain ⟨nf, vs, h1, h2, h3, r⟩ := rs.st p _ e
      split at hw
      · rename_i key ek
        cases keyD_ok ri ek
        have hl := len_map h2
        have k : TK ⟨F, S, H⟩ ⟨F, S.set p (.dct (putD kvs key d)), L2.upd H p (.dK (putK vs key z))⟩ := TK.put rs e
        obtain ⟨p1, p2⟩ := putD_ok (k := key) rd h2 r
        exact d_setItem (by omega) I (DPut.k (k := key) h1 (by rw [sizeLine_eq]; omega)) ry rz fun s' I' => hq _ s' I' (fe _ _ k (rs.put e ⟨_, upd_same, p1, kok_put h3 (keyD_sok ri ek), Rps.tk k.toRK _ _ p2⟩) hw.2)
      · exact hw.elim
    · rename_i kvs e
      obtain ⟨nf, vs, h1, h2, h3, r⟩ := rs.st p _ e
      split at hw
      · rename_i key ek
        obtain ⟨b, rfl, hb, hd, hs⟩ := keyD2_ok ri ek
        have hl := len_map h2
        have k : TK ⟨F, S, H⟩ ⟨F, S.set p (.dc2 (putD kvs key d)), L2.upd H p (.dT (putK vs (key2 key) z))⟩ := TK.put rs e
        have inj : ∀ a b : Int × Str, key2 a = key2 b ↔ a = b := by
          intro a b
          unfold key2
          constructor
          · intro h
            simp only [List.cons.injEq, Sum.inl.injEq, Sum.inr.injEq, and_true] at h
            exact Prod.ext h.1 h.2
          · intro h; rw [h]
        have hput : (putD kvs key d).map (fun x => (key2 x.1, x.2)) = putD (kvs.map fun x => (key2 x.1, x.2)) (key2 key) d := by
          unfold putD
          have ha : (kvs.map fun x => (key2 x.1, x.2)).any (fun kv => decide (kv.1 = key2 key)) = kvs.any (fun kv => decide (kv.1 = key)) := by
            rw [List.any_map]
            refine congrArg (fun f => kvs.any f) (funext fun x => ?_)
            simp only [Function.comp]
            exact decide_eq_decide.mpr (inj _ _)
          rw [ha]
          split
          · rw [List.map_map, List.map_map]
            refine List.map_congr_left fun x _ => ?_
            simp only [Function.comp]
            by_cases hx : x.1 = key
            · rw [if_pos hx, if_pos ((inj _ _).mpr hx)]
            · rw [if_neg hx, if_neg (fun z => hx ((inj _ _).mp z))]
          · rw [List.map_append]; rfl
        obtain ⟨p1, p2⟩ := putD_ok (G := G) (m := ⟨F, S, H⟩) (k := key2 key) (vs := vs) (kvs := kvs.map fun x => (key2 x.1, x.2)) rd (by rw [h2, List.map_map]; rfl) (by rw [List.map_map]; exact r)
        rw [← hput] at p1 p2
        rw [List.map_map] at p1 p2
        refine d_setItem (by omega) I (DPut.t (k := key2 key) h1 hb (by rw [sizeLine_eq]; omega)) ry rz fun s' I' => hq _ s' I' (fe _ _ k (rs.put e ⟨_, upd_same, p1, fun x hx => ?_, Rps.tk k.toRK _ _ p2⟩) hw.2)
        rcases putD_keys hx with z | z
        · rw [z]; exact hs
        · exact h3 x z
      · exact hw.elim
    · exact hw.elim
  · exact hw.elim
end
end L4

namespace L4
open PySem PySem.Spec PyProof.Rows L2

noncomputable def LM (G : Gd) (w : D → List D → Sto → PoE → Prop) : V → List V → Hp → VK → Prop := fun x xs H Q => ∃ a as F S Qd, RS G ⟨F, S, H⟩ ∧ Rp G ⟨F, S, H⟩ a x ∧ Rps G ⟨F, S, H⟩ as xs ∧ w a as S Qd ∧ FE G ⟨F, S, H⟩ Qd Q
section
variable {X : Cx} {G : Gd} {fz : Bool}
theorem onL_ok {F : Addr → Prop} {S : Sto} {H : Hp} {x : D} {v : V} {K : Addr → List D → Prop} (rs : RS G ⟨F, S, H⟩) (r : Rp G ⟨F, S, H⟩ x v) (h : onL S x K) : ∃ p ds vs, v = .ref p ∧ S p = some (.lst ds) ∧ H p = some (.lst vs) ∧ Rps G ⟨F, S, H⟩ ds vs ∧ K p ds := by
  unfold onL at h
  split at h
  · split at h
    · rename_i e
      cases Rp.ref.mp r
      obtain ⟨_, vs, h1, rr⟩ := rs.st _ _ e
      exact ⟨_, _, vs, rfl, e, h1, rr, h⟩
    · exact h.elim
  · exact h.elim
theorem onD_ok {F : Addr → Prop} {S : Sto} {H : Hp} {x : D} {v : V} {K : Addr → List (Key × D) → Prop} (rs : RS G ⟨F, S, H⟩) (r : Rp G ⟨F, S, H⟩ x v) (h : onD S x K) : ∃ p kvs vs, v = .ref p ∧ S p = some (.dct kvs) ∧ H p = some (.dK vs) ∧ vs.map (·.1) = kvs.map (·.1) ∧ kok (kvs.map (·.1)) ∧ Rps G ⟨F, S, H⟩ (kvs.map (·.2)) (vs.map (·.2)) ∧ K p kvs := by
  unfold onD at h
  split at h
  · split at h
    · rename_i e
      cases Rp.ref.mp r
      obtain ⟨_, vs, h1, h2, h3, rr⟩ := rs.st _ _ e
      exact ⟨_, _, vs, rfl, e, h1, h2, h3, rr, h⟩
    · exact h.elim
  · exact h.elim

theorem sl_set {F : Addr → Prop} {S : Sto} {H : Hp} {p : Addr} {o : O} {es : List D} {ws : List V} {x : V} {d : D} {Q : VK} {Qd : PoE} (rs : RS G ⟨F, S, H⟩) (e : S p = some o) (r : Rps G ⟨F, S, H⟩ es ws) (rd : Rp G ⟨F, S, H⟩ d x) (fe : FE G ⟨F, S, H⟩ Qd Q) (q : Qd d (S.set p (.lst es))) : Q x (L2.upd H p (.lst ws)) := by
  have k : TK ⟨F, S, H⟩ ⟨F, S.set p (.lst es), L2.upd H p (.lst ws)⟩ := TK.put rs e
  exact fe _ _ _ _ _ k (rs.put e ⟨ws, upd_same, Rps.tk k.toRK _ _ r⟩) (Rp.tk k.toRK _ _ rd) q
theorem sM_append : MtM X "list.append" (LM G (wpM .append fz)) := by
  intro pins s σ H x xs v us Q I rx rv h
  obtain ⟨a, as, F, S, Qd, rs, ra, ras, hw, fe⟩ := h
  unfold wpM at hw
  dsimp only at hw
  split at hw
  · obtain ⟨w, rfl, r1⟩ := ras.one
    obtain ⟨p, ds, vs, rfl, e, h1, r, hw⟩ := onL_ok rs ra hw
    exact mt_append pins s σ H _ _ v us Q I rx rv ⟨p, vs, w, rfl, rfl, h1, by rw [sizeLine_eq]; have := hw.1; have := r.len; omega, sl_set rs e (r.append (Rps.mk r1 Rps.mk0)) (Rp.non.mpr rfl) fe hw.2⟩
  · exact hw.elim
theorem sM_pop : MtM X "list.pop" (LM G (wpM .pop fz)) := by
  intro pins s σ H x xs v us Q I rx rv h
  obtain ⟨a, as, F, S, Qd, rs, ra, ras, hw, fe⟩ := h
  unfold wpM at hw
  dsimp only at hw
  split at hw
  · cases Rps.nil.mp ras
    obtain ⟨p, ds, vs, rfl, e, h1, r, hw⟩ := onL_ok rs ra hw
    split at hw
    · rename_i d e2
      obtain ⟨w, h2, r2⟩ := r.get e2
      exact mt_pop pins s σ H _ _ v us Q I rx rv ⟨p, vs, w, rfl, rfl, h1, by rw [← r.len]; exact h2, sl_set rs e r.dropLast r2 fe hw⟩
    · exact hw.elim
  · exact hw.elim
theorem sM_popAt : MtM X "list.pop" (LM G (wpM .popAt fz)) := by
  intro pins s σ H x xs v us Q I rx rv h
  obtain ⟨a, as, F, S, Qd, rs, ra, ras, hw, fe⟩ := h
  unfold wpM at hw
  dsimp only at hw
  split at hw
  · rename_i i
    obtain ⟨w, rfl, r1⟩ := ras.one
    cases Rp.int.mp r1
    obtain ⟨p, ds, vs, rfl, e, h1, r, hw⟩ := onL_ok rs ra hw
    split at hw
    · rename_i k e3
      split at hw
      · rename_i d e2
        obtain ⟨w, h2, r2⟩ := r.get e2
        exact mt_popAt pins s σ H _ _ v us Q I rx rv ⟨p, vs, i, k, w, rfl, rfl, h1, by have := hw.1.1; omega, by have := hw.1.2; omega, by rw [← r.len]; exact (ixN_seq e3).1, h2, sl_set rs e (Rps.erase k r) r2 fe hw.2⟩
      · exact hw.elim
    · exact hw.elim
  · exact hw.elim
theorem sM_extend : MtM X "list.extend" (LM G (wpM .extend fz)) := by
  intro pins s σ H x xs v us Q I rx rv h
  obtain ⟨a, as, F, S, Qd, rs, ra, ras, hw, fe⟩ := h
  unfold wpM at hw
  dsimp only at hw
  split at hw
  · obtain ⟨w, rfl, r1⟩ := ras.one
    obtain ⟨p, ds, vs, rfl, e, h1, r, hw⟩ := onL_ok rs ra hw
    split at hw
    · rename_i ys e2
      obtain ⟨q, ws, rfl, h2, r2⟩ := lv_ok rs r1 e2
      exact mt_extend pins s σ H _ _ v us Q I rx rv ⟨p, q, vs, ws, rfl, rfl, h1, h2, by rw [← r.len, ← r2.len]; exact line_ok hw.1, sl_set rs e (r.append r2) (Rp.non.mpr rfl) fe hw.2⟩
    · exact hw.elim
  · exact hw.elim
theorem sM_reverse : MtM X "list.reverse" (LM G (wpM .reverse fz)) := by
  intro pins s σ H x xs v us Q I rx rv h
  obtain ⟨a, as, F, S, Qd, rs, ra, ras, hw, fe⟩ := h
  unfold wpM at hw
  dsimp only at hw
  split at hw
  · cases Rps.nil.mp ras
    obtain ⟨p, ds, vs, rfl, e, h1, r, hw⟩ := onL_ok rs ra hw
    exact mt_reverse pins s σ H _ _ v us Q I rx rv ⟨p, vs, rfl, rfl, h1, sl_set rs e r.rev (Rp.non.mpr rfl) fe hw⟩
  · exact hw.elim
theorem sM_clear : MtM X "list.clear" (LM G (wpM .clear fz)) := by
  intro pins s σ H x xs v us Q I rx rv h
  obtain ⟨a, as, F, S, Qd, rs, ra, ras, hw, fe⟩ := h
  unfold wpM at hw
  dsimp only at hw
  split at hw
  · cases Rps.nil.mp ras
    obtain ⟨p, ds, vs, rfl, e, h1, r, hw⟩ := onL_ok rs ra hw
    exact mt_clear pins s σ H _ _ v us Q I rx rv ⟨p, vs, rfl, rfl, h1, sl_set rs e Rps.mk0 (Rp.non.mpr rfl) fe hw⟩
  · exact hw.elim
theorem sM_insert : MtR X "list.insert" (LM G (wpM .insert fz)) := by
  intro pins s σ H x xs v us Q I rx rv h
  obtain ⟨a, as, F, S, Qd, rs, ra, ras, hw, fe⟩ := h
  unfold wpM at hw
  dsimp only at hw
  split at hw
  · rename_i i d
    obtain ⟨w1, w2, rfl, r1, r2⟩ := ras.two
    cases Rp.int.mp r1
    obtain ⟨p, ds, vs, rfl, e, h1, r, hw⟩ := onL_ok rs ra hw
    obtain ⟨⟨g1, g2, g3⟩, hw⟩ := hw
    exact mt_insert pins s σ H _ _ v us Q I rx rv ⟨p, vs, i, w2, rfl, rfl, h1, by rw [sizeLine_eq]; have := r.len; omega, g1, by omega, sl_set rs e (((Rps.take _ r).append (Rps.mk r2 Rps.mk0)).append (Rps.drop _ r)) (Rp.non.mpr rfl) fe hw⟩
  · exact hw.elim

theorem idx_of {α : Type} [BEq α] [LawfulBEq α] : ∀ {xs : List α} {z : α} {k : Nat}, xs.idxOf? z = some k → xs[k]? = some z ∧ ∀ m, m < k → xs[m]? ≠ some z
  | [], z, k, h => by simp at h
  | x :: xs, z, k, h => by
    rw [List.idxOf?_cons] at h
    split at h
    · rename_i e
      cases h
      exact ⟨by simp [eq_of_beq e], fun m hm => absurd hm (Nat.not_lt_zero _)⟩
    · rename_i e
      cases e1 : xs.idxOf? z with
      | none => rw [e1] at h; cases h
      | some j =>
        rw [e1] at h
        cases h
        obtain ⟨h1, h2⟩ := idx_of e1
        refine ⟨h1, fun m hm => ?_⟩
        cases m with
        | zero =>
          intro q
          simp at q
          rw [q] at e
          exact e (by simp)
        | succ m => exact h2 m (Nat.lt_of_succ_lt_succ hm)
noncomputable def eqs (k : Str) (v : Value) : Bool := match v with
  | .str n _ => n.cps.toList == k.cps.toList
  | _ => false
theorem eqs_gives {k : Str} {t : Tok} : ∀ {us : List Value} {ns : List Str}, Vals (ns.map V.str) us → ∀ y ∈ us, MeetsSeq.EqGives y (.str k t) (eqs k y)
  | _, [], h => fun y hy => by cases h; cases hy
  | _, n :: ns, h => fun y hy => by
    cases h with
    | cons h1 h2 =>
      rcases List.mem_cons.mp hy with e | e
      · rw [e]
        obtain ⟨t', rfl⟩ := h1
        exact SeqRoads2.EqGives.str n k t' t
      · exact eqs_gives h2 y e
theorem erase_mapS : ∀ (l : List Str) (j : Nat), (l.map V.str).eraseIdx j = (l.eraseIdx j).map V.str
  | [], j => by simp
  | a :: r, 0 => by simp
  | a :: r, j + 1 => by
    have ih := erase_mapS r j
    simp [ih]
theorem mt_removeS : MtM X "list.remove" (fun x xs H Q => ∃ (l : Addr) (ns : List Str) (k : Str) (j : Nat), x = .ref l ∧ xs = [.str k] ∧ H l = some (.lst (ns.map V.str)) ∧ ns[j]? = some k ∧ (∀ m : Nat, m < j → ns[m]? ≠ some k) ∧ Q .non (upd H l (.lst ((ns.eraseIdx j).map V.str)))) := by
  intro pins s σ H x xs v us Q I rx rxs h
  obtain ⟨l, ns, k, j, rfl, rfl, hH, hj, hno, q⟩ := h
  cases rx
  obtain ⟨u, rfl, ru⟩ := rxs.one
  obtain ⟨t, rfl⟩ := ru
  obtain ⟨z, its, n, r, hl, e⟩ := I.lstM hH
  rw [List.length_map] at hl z
  have hjn : j < ns.length := (List.getElem?_eq_some_iff.mp hj).1
  have hjl : j < its.toArray.size := by rw [List.size_toArray]; omega
  have at_ : ∀ m (hm : m < ns.length), ∃ t, its[m]? = some (.str ns[m] t) := fun m hm => by
    obtain ⟨u, hu, ru⟩ := r.get (i := m) (x := .str ns[m]) (by rw [List.getElem?_map, List.getElem?_eq_getElem hm]; rfl)
    obtain ⟨t, rfl⟩ := ru
    exact ⟨t, hu⟩
  refine call_meets PySem.F.slot_list_remove ⟨_, e, rfl⟩ PySem.F.entry_list_remove (PySem.F.args_list_remove_2 _ _)
    (MeetsSeq.list_remove l its.toArray n (.str k t) (eqs k) (fun y hy => eqs_gives r y (by simpa using hy)) j hjl ?_ ?_ (by rw [List.size_toArray]; omega)) ⟨e, ?_⟩
  · obtain ⟨tj, hjt⟩ := at_ j hjn
    obtain ⟨h1, h2⟩ := List.getElem?_eq_some_iff.mp hjt
    have e1 : its.toArray[j] = .str ns[j] tj := by simpa using h2
    have e2 : ns[j] = k := by rw [List.getElem?_eq_getElem hjn] at hj; exact Option.some.inj hj
    rw [e1, e2]
    exact beq_self_eq_true _
  · intro m hm hmj
    have hmn : m < ns.length := by omega
    obtain ⟨tm, hmt⟩ := at_ m hmn
    obtain ⟨h1, h2⟩ := List.getElem?_eq_some_iff.mp hmt
    have e1 : its.toArray[m] = .str ns[m] tm := by simpa using h2
    rw [e1]
    refine beq_eq_false_iff_ne.mpr fun e2 => hno m hmj ?_
    rw [List.getElem?_eq_getElem hmn]
    have : ns[m] = k := by
      generalize ns[m] = y at e2
      cases y; cases k
      simp only [Str.mk.injEq]
      exact Array.toList_inj.mp e2
    rw [this]
  · have rr := r.eraseIdx j
    rw [erase_mapS] at rr
    refine ⟨.non, _, I.lset (its' := its.eraseIdx j) (t' := s.toks) hH e ?_ rr ?_, rfl, q⟩
    · show its.toArray.eraseIdxIfInBounds j = (its.eraseIdx j).toArray
      rw [List.eraseIdxIfInBounds_toArray]
    · have z2 := List.length_eraseIdx_le ns j
      rw [List.length_map]
      omega
theorem eraseS_rps {m : Wd} {ss : List Str} (h : ∀ x ∈ ss, sok x) (k : Nat) : Rps G m ((ss.eraseIdx k).map D.str) ((ss.eraseIdx k).map V.str) := strs_rps fun x hx => h x (List.mem_of_mem_eraseIdx hx)
theorem sM_remove : MtM X "list.remove" (LM G (wpM .remove fz)) := by
  intro pins s σ H x xs v us Q I rx rv h
  obtain ⟨a, as, F, S, Qd, rs, ra, ras, hw, fe⟩ := h
  unfold wpM at hw
  dsimp only at hw
  split at hw
  · rename_i z
    obtain ⟨w, rfl, r1⟩ := ras.one
    cases (Rp.str.mp r1).1
    obtain ⟨p, ds, vs, rfl, e, h1, r, hw⟩ := onL_ok rs ra hw
    split at hw
    · rename_i ss e2
      split at hw
      · rename_i k e3
        obtain ⟨rfl, hs⟩ := strsOf_rps r e2
        obtain ⟨i1, i2⟩ := idx_of e3
        exact mt_removeS pins s σ H _ _ v us Q I rx rv ⟨p, ss, z, k, rfl, rfl, h1, i1, i2, sl_set rs e (eraseS_rps hs k) (Rp.non.mpr rfl) fe hw⟩
      · exact hw.elim
    · exact hw.elim
  · rename_i z
    obtain ⟨w, rfl, r1⟩ := ras.one
    cases Rp.int.mp r1
    obtain ⟨p, ds, vs, rfl, e, h1, r, hw⟩ := onL_ok rs ra hw
    split at hw
    · rename_i ss e2
      split at hw
      · rename_i k e3
        cases intsOf_rps r e2
        obtain ⟨i1, i2⟩ := idx_of e3
        exact mt_remove pins s σ H _ _ v us Q I rx rv ⟨p, ss, z, k, rfl, rfl, h1, i1, i2, sl_set rs e ints_rps (Rp.non.mpr rfl) fe hw⟩
      · exact hw.elim
    · exact hw.elim
  · exact hw.elim
theorem all_flatS (ss : List Str) : (ss.map V.str).all flatV = true := by
  rw [List.all_eq_true]
  intro x hx
  obtain ⟨y, _, rfl⟩ := List.mem_map.mp hx
  rfl
theorem all_flatI (ss : List Int) : (ss.map V.int).all flatV = true := by
  rw [List.all_eq_true]
  intro x hx
  obtain ⟨y, _, rfl⟩ := List.mem_map.mp hx
  rfl

theorem sM_index (hK : X.K = G.K) : MtR X "list.index" (LM G (wpM .index fz)) := by
  intro pins s σ H x xs v us Q I rx rv h
  obtain ⟨a, as, F, S, Qd, rs, ra, ras, hw, fe⟩ := h
  unfold wpM at hw
  dsimp only at hw
  split at hw
  · rename_i z
    obtain ⟨w, rfl, r1⟩ := ras.one
    cases (Rp.str.mp r1).1
    split at hw
    · rename_i ds e
      split at hw
      · rename_i ss e2
        split at hw
        · rename_i k e3
          obtain ⟨p, vs, rfl, h1, r⟩ := lv_ok rs ra e
          obtain ⟨rfl, hs⟩ := strsOf_rps r e2
          obtain ⟨i1, i2⟩ := idx_of e3
          refine mt_index pins s σ H _ _ v us Q I rx rv ⟨p, _, _, k, .str z, rfl, rfl, SqL.of h1, rfl, all_flatS ss, by rw [List.getElem?_map, i1]; rfl, by simp [eqV], fun m z' hm hz => ?_, fe _ F S _ H (TK.refl _) rs (Rp.int.mpr rfl) hw⟩
          rw [List.getElem?_map] at hz
          cases e4 : ss[m]? with
          | none => rw [e4] at hz; cases hz
          | some y =>
            rw [e4] at hz
            cases hz
            simp only [eqV]
            exact beq_eq_false_iff_ne.mpr fun q => i2 m hm (by rw [e4, q])
        · exact hw.elim
      · exact hw.elim
    · exact hw.elim
  · rename_i z
    obtain ⟨w, rfl, r1⟩ := ras.one
    cases Rp.int.mp r1
    split at hw
    · rename_i ds e
      split at hw
      · rename_i ss e2
        split at hw
        · rename_i k e3
          obtain ⟨p, vs, rfl, h1, r⟩ := lv_ok rs ra e
          cases intsOf_rps r e2
          obtain ⟨i1, i2⟩ := idx_of e3
          refine mt_index pins s σ H _ _ v us Q I rx rv ⟨p, _, _, k, .int z, rfl, rfl, SqL.of h1, rfl, all_flatI ss, by rw [List.getElem?_map, i1]; rfl, by simp [eqV], fun m z' hm hz => ?_, fe _ F S _ H (TK.refl _) rs (Rp.int.mpr rfl) hw⟩
          rw [List.getElem?_map] at hz
          cases e4 : ss[m]? with
          | none => rw [e4] at hz; cases hz
          | some y =>
            rw [e4] at hz
            cases hz
            simp only [eqV]
            exact beq_eq_false_iff_ne.mpr fun q => i2 m hm (by rw [e4, q])
        · exact hw.elim
      · exact hw.elim
    · exact hw.elim
  · exact hw.elim

theorem txt_join (a : Str) (ys : List Str) : Txt.join a ys = Str.join a ys := PySem.StrLaws.glued_eq_join a ys
theorem sM_join (hK : X.K = G.K) : MtR X "str.join" (LM G (wpM .join fz)) := by
  intro pins s σ H x xs v us Q I rx rv h
  obtain ⟨a, as, F, S, Qd, rs, ra, ras, hw, fe⟩ := h
  unfold wpM at hw
  dsimp only at hw
  split at hw
  · obtain ⟨w, rfl, r1⟩ := ras.one
    obtain ⟨rfl, hs⟩ := Rp.str.mp ra
    split at hw
    · rename_i ds e
      split at hw
      · rename_i ys e2
        obtain ⟨p, vs, rfl, h1, r⟩ := lv_ok rs r1 e
        obtain ⟨rfl, hy⟩ := strsOf_rps r e2
        exact mt_join pins s σ H _ _ v us Q I rx rv ⟨_, p, ys, rfl, rfl, .inl (SqL.of h1), by have := hw.1; unfold Line at this; omega, fe _ F S _ H (TK.refl _) rs (Rp.str.mpr ⟨rfl, by rw [txt_join]; exact sok_join hs hy⟩) hw.2⟩
      · exact hw.elim
    · exact hw.elim
  · exact hw.elim
theorem sM_startswith : MtR X "str.startswith" (LM G (wpM .startswith fz)) := by
  intro pins s σ H x xs v us Q I rx rv h
  obtain ⟨a, as, F, S, Qd, rs, ra, ras, hw, fe⟩ := h
  unfold wpM at hw
  dsimp only at hw
  split at hw
  · obtain ⟨w, rfl, r1⟩ := ras.one
    cases (Rp.str.mp ra).1
    cases (Rp.str.mp r1).1
    exact mt_startswith pins s σ H _ _ v us Q I rx rv ⟨_, _, rfl, rfl, fe _ F S _ H (TK.refl _) rs (Rp.bl.mpr rfl) hw⟩
  · exact hw.elim
theorem sM_endswith : MtR X "str.endswith" (LM G (wpM .endswith fz)) := by
  intro pins s σ H x xs v us Q I rx rv h
  obtain ⟨a, as, F, S, Qd, rs, ra, ras, hw, fe⟩ := h
  unfold wpM at hw
  dsimp only at hw
  split at hw
  · obtain ⟨w, rfl, r1⟩ := ras.one
    cases (Rp.str.mp ra).1
    cases (Rp.str.mp r1).1
    exact mt_endswith pins s σ H _ _ v us Q I rx rv ⟨_, _, rfl, rfl, fe _ F S _ H (TK.refl _) rs (Rp.bl.mpr rfl) hw⟩
  · exact hw.elim
theorem sM_count : MtR X "str.count" (LM G (wpM .count fz)) := by
  intro pins s σ H x xs v us Q I rx rv h
  obtain ⟨a, as, F, S, Qd, rs, ra, ras, hw, fe⟩ := h
  unfold wpM at hw
  dsimp only at hw
  split at hw
  · obtain ⟨w, rfl, r1⟩ := ras.one
    cases (Rp.str.mp ra).1
    cases (Rp.str.mp r1).1
    exact mt_count pins s σ H _ _ v us Q I rx rv ⟨_, _, rfl, rfl, fe _ F S _ H (TK.refl _) rs (Rp.int.mpr rfl) hw⟩
  · exact hw.elim
theorem sM_upper : MtR X "str.upper" (LM G (wpM .upper fz)) := by
  intro pins s σ H x xs v us Q I rx rv h
  obtain ⟨a, as, F, S, Qd, rs, ra, ras, hw, fe⟩ := h
  unfold wpM at hw
  dsimp only at hw
  split at hw
  · cases Rps.nil.mp ras
    cases (Rp.str.mp ra).1
    exact mt_upper pins s σ H _ _ v us Q I rx rv ⟨_, rfl, rfl, Nat.le_trans hw.1.1 (by decide), fe _ F S _ H (TK.refl _) rs (Rp.str.mpr ⟨rfl, hw.1.2⟩) hw.2⟩
  · exact hw.elim
theorem sM_isdigit : MtR X "str.isdigit" (LM G (wpM .isdigit fz)) := by
  intro pins s σ H x xs v us Q I rx rv h
  obtain ⟨a, as, F, S, Qd, rs, ra, ras, hw, fe⟩ := h
  unfold wpM at hw
  dsimp only at hw
  split at hw
  · cases Rps.nil.mp ras
    cases (Rp.str.mp ra).1
    exact mt_isdigit pins s σ H _ _ v us Q I rx rv ⟨_, rfl, rfl, trivial, fe _ F S _ H (TK.refl _) rs (Rp.bl.mpr rfl) hw⟩
  · exact hw.elim
theorem sM_partition : MtR X "str.partition" (LM G (wpM .partition fz)) := by
  intro pins s σ H x xs v us Q I rx rv h
  obtain ⟨a, as, F, S, Qd, rs, ra, ras, hw, fe⟩ := h
  unfold wpM at hw
  dsimp only at hw
  split at hw
  · obtain ⟨w, rfl, r1⟩ := ras.one
    cases (Rp.str.mp ra).1
    cases (Rp.str.mp r1).1
    obtain ⟨⟨h1, h2, h3, h4, h5⟩, hw⟩ := hw
    exact mt_partition pins s σ H _ _ v us Q I rx rv ⟨_, _, rfl, rfl, beq_eq_false_iff_ne.mpr h1, line_ok h2, newT_ok rs (Rps.mk (Rp.str.mpr ⟨rfl, h3⟩) (Rps.mk (Rp.str.mpr ⟨rfl, h4⟩) (Rps.mk (Rp.str.mpr ⟨rfl, h5⟩) Rps.mk0))) fe hw⟩
  · exact hw.elim
theorem sM_split : MtR X "str.split" (LM G (wpM .split fz)) := by
  intro pins s σ H x xs v us Q I rx rv h
  obtain ⟨a, as, F, S, Qd, rs, ra, ras, hw, fe⟩ := h
  unfold wpM at hw
  dsimp only at hw
  split at hw
  · obtain ⟨w, rfl, r1⟩ := ras.one
    cases (Rp.str.mp ra).1
    cases (Rp.str.mp r1).1
    obtain ⟨⟨h1, h2, h3⟩, hw⟩ := hw
    exact mt_split pins s σ H _ _ v us Q I rx rv ⟨_, _, rfl, rfl, beq_eq_false_iff_ne.mpr h1, by unfold Line at h2; rw [sizeLine_eq]; omega, newL_ok rs (strs_rps h3) fe hw⟩
  · exact hw.elim
theorem sM_dclear : MtR X "dict.clear" (LM G (wpM .dclear fz)) := by
  intro pins s σ H x xs v us Q I rx rv h
  obtain ⟨a, as, F, S, Qd, rs, ra, ras, hw, fe⟩ := h
  unfold wpM at hw
  dsimp only at hw
  split at hw
  · cases Rps.nil.mp ras
    obtain ⟨p, kvs, vs, rfl, e, h1, h2, h3, r, hw⟩ := onD_ok rs ra hw
    have k : TK ⟨F, S, H⟩ ⟨F, S.set p (.dct []), L2.upd H p (.dK [])⟩ := TK.put rs e
    exact mtd_clear pins s σ H _ _ v us Q I rx rv ⟨p, vs, rfl, rfl, h1, fe _ _ _ _ _ k (rs.put e ⟨[], upd_same, rfl, fun _ h => (nomatch h), Rps.mk0⟩) (Rp.non.mpr rfl) hw⟩
  · exact hw.elim

noncomputable def LSl (G : Gd) (w : D → Option Int → Option Int → Sto → PoE → Prop) : V → Option Int → Option Int → Hp → VK → Prop := fun x lo hi H Q => ∃ a F S Qd, RS G ⟨F, S, H⟩ ∧ Rp G ⟨F, S, H⟩ a x ∧ w a lo hi S Qd ∧ FE G ⟨F, S, H⟩ Qd Q
theorem cut_rps {m : Wd} {ds : List D} {vs : List V} {lo hi : Option Int} (r : Rps G m ds vs) : Rps G m (cutD ds lo hi) (cutV vs lo hi) := by
  unfold cutD cutV
  rw [r.len]
  exact Rps.take _ (Rps.drop _ r)
theorem cut_whole {ds : List D} {lo hi : Option Int} (h : HT.sIx ds.length 0 lo = 0 ∧ HT.sIx ds.length ds.length hi = ds.length) : cutD ds lo hi = ds := by
  unfold cutD
  rw [h.1, h.2, List.drop_zero, Nat.sub_zero, List.take_length]
theorem sok_cut {z : Str} (h : sok z) {lo hi : Option Int} : sok (cutS z lo hi) := by
  rw [sok_all] at h ⊢
  intro c hc
  refine h c ?_
  unfold cutS at hc
  first
    | exact List.mem_of_mem_drop (List.mem_of_mem_take (by simpa using hc))
    | (simp only [Array.toList_extract, List.extract_eq_drop_take'] at hc; exact List.mem_of_mem_drop (List.mem_of_mem_take hc))
theorem sb_sl (hK : X.K = G.K) : SlR X (LSl G (wpSl fz)) := by
  intro pins s σ H x v vl vu lo hi sl Q I rx hs pl pu h
  obtain ⟨a, F, S, Qd, rs, ra, hw, fe⟩ := h
  unfold wpSl at hw
  split at hw
  · rename_i ds
    obtain ⟨p, vs, rfl, hq, _, r⟩ := Rp.tup.mp ra
    exact sl_tupA pins s σ H _ v vl vu lo hi sl Q I rx hs pl pu ⟨p, vs, rfl, by rw [hK]; exact hq.sq, fun z => by
      rw [← r.len] at z
      rw [cut_whole z] at hw
      exact fe _ F S _ H (TK.refl _) rs ra hw.2, fun _ t ht => newT_ok rs (cut_rps r) fe hw.2 t ht⟩
  · obtain ⟨rfl, hz⟩ := Rp.str.mp ra
    exact sl_str pins s σ H _ v vl vu lo hi sl Q I rx hs pl pu ⟨_, rfl, line_ok hw.1, fe _ F S _ H (TK.refl _) rs (Rp.str.mpr ⟨rfl, sok_cut hz⟩) hw.2⟩
  · split at hw
    · rename_i ds e
      obtain ⟨p, vs, rfl, h1, r⟩ := lv_ok rs ra e
      exact sl_list pins s σ H _ v vl vu lo hi sl Q I rx hs pl pu ⟨p, vs, rfl, SqL.of h1, newL_ok rs (cut_rps r) fe hw⟩
    · exact hw.elim
end
end L4

namespace L4
open PySem PySem.Spec PyProof.Rows L2

noncomputable def noStar : Expr → Bool
  | .Starred _ _ => false
  | _ => true
theorem star_cons {env : Env} {es : List Expr} : ∀ {e : Expr}, noStar e = true → starEach (e :: es) env = (false, eval e env) :: starEach es env := by
  intro e h
  cases e <;> first | rfl | (cases h; done)
theorem star_any {env : Env} {pos : Pos} : ∀ {es : List Expr}, es.all noStar = true → (backTo pos (starEach es env)).any (·.1) = false
  | [], _ => rfl
  | e :: es, h => by
    rw [List.all_cons, Bool.and_eq_true] at h
    rw [star_cons h.1]
    exact star_any (es := es) h.2
noncomputable def plainTest : Expr → Bool
  | .UnaryOp .Not _ _ => false
  | .BoolOp _ _ _ => false
  | .IfExp _ _ _ _ => false
  | .Compare _ _ _ _ => false
  | _ => true
theorem plain_true {env : Env} {e : Expr} (h : plainTest e = true) : ∀ whole, isTrue e env whole = (do let v ← whole; standAt e.pos; holding [v] (truthy v)) := by
  intro whole
  cases e <;> first | rfl | (cases h; done) | skip
  rename_i op a p
  cases op <;> first | rfl | (cases h; done)
noncomputable def plainIx : Expr → Bool
  | .Slice _ _ _ _ => false
  | _ => true
theorem plain_ix {e : Expr} (h : plainIx e = true) : PlainIx e := by
  intro o i
  cases e <;> first | rfl | (cases h; done)
noncomputable def noComp : Expr → Bool
  | .ListComp _ _ _ _ => false
  | .SetComp _ _ _ _ => false
  | .DictComp _ _ _ _ _ => false
  | _ => true
theorem no_swap {e : Expr} {t : Option Expr} {l : Nat} {env : Env} (h : noComp e = true) : swapsWith e t l env = pure false := by
  cases e <;> first | rfl | (cases h; done)
noncomputable def noSet : Expr → Bool
  | .Set _ _ _ => false
  | _ => true
theorem no_fold {e : Expr} {env : Env} (h : noSet e = true) : ∀ x, foldedSetIterable e env x = pure x := by
  intro x
  cases e <;> first | rfl | (cases h; done)

section
variable {X : Cx} {G : Gx} {W : WX} {a b t : Expr} {wa wb wt : WEx} {pos : Pos}
theorem q_var {i : Nat} {x : Str} (hN : X.N[i]? = some x) (hv : Vis X.env.scope x) (hd : (x == ("__debug__" : Str)) = false) (hc : (x == ("__classdict__" : Str)) = false) : PE X (.Name x pos) (LE G W (fun fr S Q _ => match fr[i]? with
    | some (some d) => Q d S
    | _ => False)) := by
  refine ⟨fun pins s σ H Q I h => (pe_var (pos := pos) hN hv hd hc).run pins s σ H Q I ?_⟩
  obtain ⟨fr, F, S, Qd, Ed, rf, rs, hw, fe, fx⟩ := h
  (try dsimp only at hw)
  split at hw
  · rename_i d e
    obtain ⟨v, h1, h2⟩ := rf.at_ i d e
    exact ⟨v, h1, fe d F S v H (TK.refl _) rs h2 hw⟩
  · exact hw.elim

theorem q_const {e : Expr} {d : D} {v : V} (h : PE X e (tC v)) (r : ∀ m, Rp G m d v) : PE X e (LE G W (fun _ S Q _ => Q d S)) := by
  refine ⟨fun pins s σ H Q I hh => h.run pins s σ H Q I ?_⟩
  obtain ⟨fr, F, S, Qd, Ed, rf, rs, hw, fe, fx⟩ := hh
  exact fe d F S v H (TK.refl _) rs (r _) hw
theorem q_bin {op : Operator} {w : W2} (ho : OpR X (binaryOp op) (L2o G w)) (ha : PE X a (LE G W wa)) (hb : PE X b (LE G W wb)) :
    PE X (.BinOp a op b pos) (LE G W (fun fr S Q E => wa fr S (fun x S1 => wb fr S1 (fun y S2 => w x y S2 Q) E) E)) := by
  refine ⟨fun pins s σ H Q I h => (pe_op (pos := pos) ho ha hb).run pins s σ H Q I ?_⟩
  obtain ⟨fr, F, S, Qd, Ed, rf, rs, hw, fe, fx⟩ := h
  exact ⟨fr, F, S, _, Ed, rf, rs, hw, fun d F1 S1 v H1 k1 rs1 r1 h1 => ⟨fr, F1, S1, _, Ed, rf.tk k1.toRK, rs1, h1, fun d2 F2 S2 v2 H2 k2 rs2 r2 h2 => ⟨d, d2, F2, S2, Qd, rs2, Rp.tk k2.toRK _ _ r1, r2, h2, fe.tk (k1.trans k2)⟩, fx.tk k1⟩, fx⟩
theorem q_cmp {op : CmpOp} {w : W2} (ho : OpR X (compareOp op) (L2o G w)) (ha : PE X a (LE G W wa)) (hb : PE X b (LE G W wb)) (hm : behindInMarks op b = false) :
    PE X (.Compare a [op] [b] pos) (LE G W (fun fr S Q E => wa fr S (fun x S1 => wb fr S1 (fun y S2 => w x y S2 Q) E) E)) := by
  refine ⟨fun pins s σ H Q I h => (pe_cmpR (pos := pos) ho ha hb hm).run pins s σ H Q I ?_⟩
  obtain ⟨fr, F, S, Qd, Ed, rf, rs, hw, fe, fx⟩ := h
  exact ⟨fr, F, S, _, Ed, rf, rs, hw, fun d F1 S1 v H1 k1 rs1 r1 h1 => ⟨fr, F1, S1, _, Ed, rf.tk k1.toRK, rs1, h1, fun d2 F2 S2 v2 H2 k2 rs2 r2 h2 => ⟨d, d2, F2, S2, Qd, rs2, Rp.tk k2.toRK _ _ r1, r2, h2, fe.tk (k1.trans k2)⟩, fx.tk k1⟩, fx⟩
theorem qt_cmp {op : CmpOp} {w : W2} (ho : OpR X (compareOp op) (L2o G w)) (ha : PE X a (LE G W wa)) (hb : PE X b (LE G W wb)) (hm : behindInMarks op b = false) :
    PT X (.Compare a [op] [b] pos) (LT G W (fun fr S Q E => wa fr S (fun x S1 => wb fr S1 (fun y S2 => w x y S2 Q) E) E)) := by
  refine ⟨fun pins s σ H Q I h => (pt_cmpR (pos := pos) ho ha hb hm).run pins s σ H Q I ?_⟩
  obtain ⟨fr, F, S, Qd, Ed, rf, rs, hw, fe, fx⟩ := h
  refine ⟨fr, F, S, _, Ed, rf, rs, hw, fun d F1 S1 v H1 k1 rs1 r1 h1 => ⟨fr, F1, S1, _, Ed, rf.tk k1.toRK, rs1, h1, fun d2 F2 S2 v2 H2 k2 rs2 r2 h2 => ⟨d, d2, F2, S2, Qd, rs2, Rp.tk k2.toRK _ _ r1, r2, h2, fun d3 F3 S3 v3 H3 k3 rs3 r3 h3 => ?_⟩, fx.tk k1⟩, fx⟩
  obtain ⟨c, rfl, q⟩ := fe d3 F3 S3 H3 ((k1.trans k2).trans k3) rs3 h3
  exact ⟨c, Rp.bl.mp r3, q⟩

theorem qt_val {e : Expr} {w : WEx} (h : PE X e (LE G W w)) (hp : plainTest e = true) : PT X e (LT G W w) := by
  refine ⟨fun pins s σ H Q I hh => (pt_val h (plain_true hp)).run pins s σ H Q I ?_⟩
  obtain ⟨fr, F, S, Qd, Ed, rf, rs, hw, fe, fx⟩ := hh
  refine ⟨fr, F, S, Qd, Ed, rf, rs, hw, fun d F1 S1 v H1 k1 rs1 r1 h1 => ?_, fx⟩
  obtain ⟨c, rfl, q⟩ := fe d F1 S1 H1 k1 rs1 h1
  exact ⟨c, Rp.bl.mp r1, q⟩
theorem q_neg (ha : PE X a (LE G W wa)) : PE X (.UnaryOp .USub a pos) (LE G W (fun fr S Q E => wa fr S (fun x S1 => match x with
    | .int i => Q (.int (-i)) S1
    | _ => False) E)) := by
  refine ⟨fun pins s σ H Q I h => (pe_un (pos := pos) un_neg ha).run pins s σ H Q I ?_⟩
  obtain ⟨fr, F, S, Qd, Ed, rf, rs, hw, fe, fx⟩ := h
  refine ⟨fr, F, S, _, Ed, rf, rs, hw, fun d F1 S1 v H1 k1 rs1 r1 h1 => ?_, fx⟩
  (try dsimp only at h1)
  split at h1
  · cases Rp.int.mp r1
    exact ⟨_, rfl, fe _ F1 S1 _ H1 k1 rs1 (Rp.int.mpr rfl) h1⟩
  · exact h1.elim
theorem q_not (ha : PE X a (LE G W wa)) : PE X (.UnaryOp .Not a pos) (LE G W (fun fr S Q E => wa fr S (fun x S1 => match x with
    | .bl b => Q (.bl (!b)) S1
    | _ => False) E)) := by
  refine ⟨fun pins s σ H Q I h => (pe_not (pos := pos) ha).run pins s σ H Q I ?_⟩
  obtain ⟨fr, F, S, Qd, Ed, rf, rs, hw, fe, fx⟩ := h
  refine ⟨fr, F, S, _, Ed, rf, rs, hw, fun d F1 S1 v H1 k1 rs1 r1 h1 => ?_, fx⟩
  (try dsimp only at h1)
  split at h1
  · cases Rp.bl.mp r1
    exact ⟨_, rfl, fe _ F1 S1 _ H1 k1 rs1 (Rp.bl.mpr rfl) h1⟩
  · exact h1.elim
theorem qt_not (ha : PT X a (LT G W wa)) : PT X (.UnaryOp .Not a pos) (LT G W (fun fr S Q E => wa fr S (fun x S1 => match x with
    | .bl b => Q (.bl (!b)) S1
    | _ => False) E)) := by
  refine ⟨fun pins s σ H Q I h => (pt_not (pos := pos) ha).run pins s σ H Q I ?_⟩
  obtain ⟨fr, F, S, Qd, Ed, rf, rs, hw, fe, fx⟩ := h
  refine ⟨fr, F, S, _, Ed, rf, rs, hw, fun d F1 S1 H1 k1 rs1 h1 => ?_, fx⟩
  (try dsimp only at h1)
  split at h1
  · rename_i c
    obtain ⟨c', e, q⟩ := fe _ F1 S1 H1 k1 rs1 h1
    cases e
    exact ⟨c, rfl, q⟩
  · exact h1.elim
theorem q_ite (ht : PT X t (LT G W wt)) (ha : PE X a (LE G W wa)) (hb : PE X b (LE G W wb)) : PE X (.IfExp t a b pos) (LE G W (fun fr S Q E => wt fr S (fun x S1 => match x with
    | .bl true => wa fr S1 Q E
    | .bl false => wb fr S1 Q E
    | _ => False) E)) := by
  refine ⟨fun pins s σ H Q I h => (pe_ifExp (pos := pos) ht ha hb).run pins s σ H Q I ?_⟩
  obtain ⟨fr, F, S, Qd, Ed, rf, rs, hw, fe, fx⟩ := h
  refine ⟨fr, F, S, _, Ed, rf, rs, hw, fun d F1 S1 H1 k1 rs1 h1 => ?_, fx⟩
  (try dsimp only at h1)
  split at h1
  · exact ⟨true, rfl, iteT ⟨fr, F1, S1, Qd, Ed, rf.tk k1.toRK, rs1, h1, fe.tk k1, fx.tk k1⟩⟩
  · exact ⟨false, rfl, iteF ⟨fr, F1, S1, Qd, Ed, rf.tk k1.toRK, rs1, h1, fe.tk k1, fx.tk k1⟩⟩
  · exact h1.elim

theorem q_one {op : BoolOp} (ha : PE X a (LE G W wa)) : PE X (.BoolOp op [a] pos) (LE G W wa) := pe_one ha
theorem q_and {rest : List Expr} (ha : PE X a (LE G W wa)) (hb : PE X (.BoolOp .And (b :: rest) pos) (LE G W wb)) : PE X (.BoolOp .And (a :: b :: rest) pos) (LE G W (fun fr S Q E => wa fr S (fun x S1 => match x with
      | .bl true => wb fr S1 Q E
      | .bl false => Q (.bl false) S1
      | _ => False) E)) := by
  refine ⟨fun pins s σ H Q I h => (pe_and ha hb).run pins s σ H Q I ?_⟩
  obtain ⟨fr, F, S, Qd, Ed, rf, rs, hw, fe, fx⟩ := h
  refine ⟨fr, F, S, _, Ed, rf, rs, hw, fun d F1 S1 v H1 k1 rs1 r1 h1 => ?_, fx⟩
  (try dsimp only at h1)
  split at h1
  · cases Rp.bl.mp r1
    exact ⟨true, rfl, iteT ⟨fr, F1, S1, Qd, Ed, rf.tk k1.toRK, rs1, h1, fe.tk k1, fx.tk k1⟩⟩
  · cases Rp.bl.mp r1
    exact ⟨false, rfl, iteF (fe _ F1 S1 _ H1 k1 rs1 (Rp.bl.mpr rfl) h1)⟩
  · exact h1.elim
theorem q_or {rest : List Expr} (ha : PE X a (LE G W wa)) (hb : PE X (.BoolOp .Or (b :: rest) pos) (LE G W wb)) : PE X (.BoolOp .Or (a :: b :: rest) pos) (LE G W (fun fr S Q E => wa fr S (fun x S1 => match x with
      | .bl true => Q (.bl true) S1
      | .bl false => wb fr S1 Q E
      | _ => False) E)) := by
  refine ⟨fun pins s σ H Q I h => (pe_or ha hb).run pins s σ H Q I ?_⟩
  obtain ⟨fr, F, S, Qd, Ed, rf, rs, hw, fe, fx⟩ := h
  refine ⟨fr, F, S, _, Ed, rf, rs, hw, fun d F1 S1 v H1 k1 rs1 r1 h1 => ?_, fx⟩
  (try dsimp only at h1)
  split at h1
  · cases Rp.bl.mp r1
    exact ⟨true, rfl, iteT (fe _ F1 S1 _ H1 k1 rs1 (Rp.bl.mpr rfl) h1)⟩
  · cases Rp.bl.mp r1
    exact ⟨false, rfl, iteF ⟨fr, F1, S1, Qd, Ed, rf.tk k1.toRK, rs1, h1, fe.tk k1, fx.tk k1⟩⟩
  · exact h1.elim
theorem qw_and {rest : List Expr} (ha : PT X a (LT G W wa)) (hb : PW X (.BoolOp .And (b :: rest) pos) (LT G W wb)) : PW X (.BoolOp .And (a :: b :: rest) pos) (LT G W (fun fr S Q E => wa fr S (fun x S1 => match x with
      | .bl true => wb fr S1 Q E
      | .bl false => Q (.bl false) S1
      | _ => False) E)) := by
  refine ⟨fun wh pins s σ H Q I h => (pw_and ha hb).run wh pins s σ H Q I ?_⟩
  obtain ⟨fr, F, S, Qd, Ed, rf, rs, hw, fe, fx⟩ := h
  refine ⟨fr, F, S, _, Ed, rf, rs, hw, fun d F1 S1 H1 k1 rs1 h1 => ?_, fx⟩
  (try dsimp only at h1)
  split at h1
  · exact ⟨true, rfl, iteT ⟨fr, F1, S1, Qd, Ed, rf.tk k1.toRK, rs1, h1, fun d' F' S' H' k' => fe d' F' S' H' (k1.trans k'), fx.tk k1⟩⟩
  · obtain ⟨c, e, q⟩ := fe _ F1 S1 H1 k1 rs1 h1
    cases e
    exact ⟨false, rfl, iteF q⟩
  · exact h1.elim
theorem qw_or {rest : List Expr} (ha : PT X a (LT G W wa)) (hb : PW X (.BoolOp .Or (b :: rest) pos) (LT G W wb)) : PW X (.BoolOp .Or (a :: b :: rest) pos) (LT G W (fun fr S Q E => wa fr S (fun x S1 => match x with
      | .bl true => Q (.bl true) S1
      | .bl false => wb fr S1 Q E
      | _ => False) E)) := by
  refine ⟨fun wh pins s σ H Q I h => (pw_or ha hb).run wh pins s σ H Q I ?_⟩
  obtain ⟨fr, F, S, Qd, Ed, rf, rs, hw, fe, fx⟩ := h
  refine ⟨fr, F, S, _, Ed, rf, rs, hw, fun d F1 S1 H1 k1 rs1 h1 => ?_, fx⟩
  (try dsimp only at h1)
  split at h1
  · obtain ⟨c, e, q⟩ := fe _ F1 S1 H1 k1 rs1 h1
    cases e
    exact ⟨true, rfl, iteT q⟩
  · exact ⟨false, rfl, iteF ⟨fr, F1, S1, Qd, Ed, rf.tk k1.toRK, rs1, h1, fun d' F' S' H' k' => fe d' F' S' H' (k1.trans k'), fx.tk k1⟩⟩
  · exact h1.elim

theorem q_nil : PA X [] (LA G W (fun _ S Q _ => Q [] S)) := by
  refine ⟨fun pos pins s σ H Q I h => pa_nil.run pos pins s σ H Q I ?_⟩
  obtain ⟨fr, F, S, Qd, Ed, rf, rs, hw, fa, fx⟩ := h
  exact fa [] F S [] H (TK.refl _) rs Rps.mk0 hw
theorem q_cons {es : List Expr} {ws : WLs} (ha : PE X a (LE G W wa)) (hr : PA X es (LA G W ws)) (hs : noStar a = true) : PA X (a :: es) (LA G W (fun fr S Q E => wa fr S (fun d S1 => ws fr S1 (fun ds S2 => Q (d :: ds) S2) E) E)) := by
  refine ⟨fun pos pins s σ H Q I h => (pa_cons ha hr (star_cons hs)).run pos pins s σ H Q I ?_⟩
  obtain ⟨fr, F, S, Qd, Ed, rf, rs, hw, fa, fx⟩ := h
  exact ⟨fr, F, S, _, Ed, rf, rs, hw, fun d F1 S1 v H1 k1 rs1 r1 h1 => ⟨fr, F1, S1, _, Ed, rf.tk k1.toRK, rs1, h1, fun ds F2 S2 vs H2 k2 rs2 r2 h2 => fa (d :: ds) F2 S2 (v :: vs) H2 (k1.trans k2) rs2 (Rps.mk (Rp.tk k2.toRK _ _ r1) r2) h2, fx.tk k1⟩, fx⟩
theorem q_tup {es : List Expr} {ws : WLs} (h : PA X es (LA G W ws)) : PE X (.Tuple es kk pos) (LE G W (fun fr S Q E => ws fr S (fun ds S1 => ds.length ≤ 1000 ∧ Q (.tup ds) S1) E)) := by
  refine ⟨fun pins s σ H Q I hh => (pe_tup h).run pins s σ H Q I ?_⟩
  obtain ⟨fr, F, S, Qd, Ed, rf, rs, hw, fe, fx⟩ := hh
  exact ⟨fr, F, S, _, Ed, rf, rs, hw, fun ds F1 S1 vs H1 k1 rs1 r1 h1 => ⟨by rw [← r1.len, sizeLine_eq]; have := h1.1; omega, newT_ok rs1 r1 (fe.tk k1) h1.2⟩, fx⟩
theorem q_lst {es : List Expr} {ws : WLs} {fz : Bool} (h : PA X es (LA G W ws)) : PE X (.List es pos) (LE G W (fun fr S Q E => ws fr S (fun ds S1 => ds.length ≤ 1000 ∧ newL fz ds S1 Q) E)) := by
  refine ⟨fun pins s σ H Q I hh => (pe_lst h).run pins s σ H Q I ?_⟩
  obtain ⟨fr, F, S, Qd, Ed, rf, rs, hw, fe, fx⟩ := hh
  exact ⟨fr, F, S, _, Ed, rf, rs, hw, fun ds F1 S1 vs H1 k1 rs1 r1 h1 => ⟨by rw [← r1.len, sizeLine_eq]; have := h1.1; omega, newL_ok rs1 r1 (fe.tk k1) h1.2⟩, fx⟩
theorem q_idx {w : W2} (hr : IxR X (L2o G w)) (ha : PE X a (LE G W wa)) (hb : PE X b (LE G W wb)) (hs : plainIx b = true) :
    PE X (.Subscript a b pos) (LE G W (fun fr S Q E => wa fr S (fun x S1 => wb fr S1 (fun y S2 => w x y S2 Q) E) E)) := by
  refine ⟨fun pins s σ H Q I h => (pe_ix (pos := pos) hr ha hb (plain_ix hs)).run pins s σ H Q I ?_⟩
  obtain ⟨fr, F, S, Qd, Ed, rf, rs, hw, fe, fx⟩ := h
  exact ⟨fr, F, S, _, Ed, rf, rs, hw, fun d F1 S1 v H1 k1 rs1 r1 h1 => ⟨fr, F1, S1, _, Ed, rf.tk k1.toRK, rs1, h1, fun d2 F2 S2 v2 H2 k2 rs2 r2 h2 => ⟨d, d2, F2, S2, Qd, rs2, Rp.tk k2.toRK _ _ r1, r2, h2, fe.tk (k1.trans k2)⟩, fx.tk k1⟩, fx⟩

noncomputable def baseC : Expr → Bool
  | .Call (.Name _ _) [] [] _ => false
  | _ => true
theorem base_ok {o : Expr} {name : Str} {env : Env} (h : baseC o = true) : ∀ ev, attributeBase o name env ev = ev := by
  intro ev
  unfold attributeBase
  split
  · cases h
  · rfl
theorem few_ok {env : Env} {pos : Pos} {es : List Expr} (h : es.all noStar = true) (hl : es.length < 30) : ((backTo pos (starEach es env)).all (fun x => !x.1) && (backToKw pos (keywordEach [] env)).all (fun x => x.1.isSome)
      && decide (es.length + ([] : List Keyword).length + (if ([] : List Keyword).isEmpty then 0 else 1) < 30)) = true := by
  have h1 : ∀ es : List Expr, es.all noStar = true → (backTo pos (starEach es env)).all (fun x => !x.1) = true := by
    intro es
    induction es with
    | nil => intro _; rfl
    | cons e es ih =>
      intro h
      rw [List.all_cons, Bool.and_eq_true] at h
      rw [star_cons h.1]
      exact ih h.2
  rw [h1 es h]
  show (true && true && decide (es.length + 0 + 0 < 30)) = true
  rw [decide_eq_true (by omega)]
  rfl
theorem tyV_ok {K : PySem.W.Frag} {F : Addr → Prop} {S : Sto} {H : Hp} {d : D} {v : V} {T : String} (hK : K = G.K) (rs : RS G ⟨F, S, H⟩) (r : Rp G ⟨F, S, H⟩ d v) (hT : T = "list" ∨ T = "str") (e : tyD S d = some T) : tyV K T v H := by
  cases d <;> simp only [tyD] at e
  · cases e; rcases hT with z | z <;> exact absurd z (by decide)
  · cases e; rcases hT with z | z <;> exact absurd z (by decide)
  · cases e; rcases hT with z | z <;> exact absurd z (by decide)
  · cases (Rp.str.mp r).1; cases e; rfl
  · cases Rp.ref.mp r
    split at e
    · rename_i ds e0
      cases e
      obtain ⟨_, vs, h1, _⟩ := rs.st _ _ e0
      exact .inl ⟨rfl, vs, SqL.of h1⟩
    · cases e; rcases hT with z | z <;> exact absurd z (by decide)
    · cases e; rcases hT with z | z <;> exact absurd z (by decide)
    · cases e
  · cases e
  · cases e
  · cases e
  · cases e; rcases hT with z | z <;> exact absurd z (by decide)
  · cases e
    obtain ⟨p, vs, rfl, hq, _⟩ := Rp.lst.mp r
    exact .inl ⟨rfl, vs, SqL.of hq.2⟩
  · cases e
    obtain ⟨p, vs, rfl, hq, _⟩ := Rp.scr.mp r
    exact .inl ⟨rfl, vs, by rw [hK]; exact hq.sq⟩
  · cases e; rcases hT with z | z <;> exact absurd z (by decide)
  · cases e; rcases hT with z | z <;> exact absurd z (by decide)
  · cases e
theorem tyV_dict {K : PySem.W.Frag} {F : Addr → Prop} {S : Sto} {H : Hp} {p : Addr} {v : V} (rs : RS G ⟨F, S, H⟩) (r : Rp G ⟨F, S, H⟩ (.ref p) v) (e : tyD S (.ref p) = some "dict") : tyV K "dict" v H := by
  cases Rp.ref.mp r
  simp only [tyD] at e
  split at e
  · exact absurd (Option.some.inj e) (by decide)
  · rename_i e0
    obtain ⟨_, vs, h1, _⟩ := rs.st _ _ e0
    exact .inr (.inr (.inl ⟨rfl, .inl ⟨vs, h1⟩⟩))
  · rename_i e0
    obtain ⟨_, vs, h1, _⟩ := rs.st _ _ e0
    exact .inr (.inr (.inl ⟨rfl, .inr ⟨vs, h1⟩⟩))
  · cases e
theorem q_met {T id : String} {name : Str} {o e : Expr} {es : List Expr} {wo : WEx} {ws : WLs} {w : D → List D → Sto → PoE → Prop} {apos cpos : Pos} (hK : X.K = G.K) (pa : PlainAttrs T) (slot : Slot T name id) (hty : typeOf (.builtin id) = pure (.type "method_descriptor"))
    (hm : MtR X id (LM G w)) (hT : T = "list" ∨ T = "str") (ho : PE X o (LE G W wo)) (ha : PA X (e :: es) (LA G W ws)) (hb : baseC o = true) (hl : (apos.endLine == cpos.line) = true) (hn : (e :: es).length < 30) (hs : noStar e = true) (hs2 : es.all noStar = true) :
    PE X (.Call (.Attribute o name apos) (e :: es) [] cpos) (LE G W (fun fr S Q E => wo fr S (fun x S1 => tyD S1 x = some T ∧ ws fr S1 (fun ds S2 => w x ds S2 Q) E) E)) := by
  refine ⟨fun pins s σ H Q I h => (pe_bm (apos := apos) (cpos := cpos) pa slot hty hm ho ha (base_ok hb _) (few_ok (by rw [List.all_cons, hs, hs2]; rfl) hn) hl (star_cons hs) (star_any hs2)).run pins s σ H Q I ?_⟩
  obtain ⟨fr, F, S, Qd, Ed, rf, rs, hw, fe, fx⟩ := h
  refine ⟨fr, F, S, _, Ed, rf, rs, hw, fun d F1 S1 v H1 k1 rs1 r1 h1 => ⟨tyV_ok hK rs1 r1 hT h1.1, ?_⟩, fx⟩
  exact ⟨fr, F1, S1, _, Ed, rf.tk k1.toRK, rs1, h1.2, fun ds F2 S2 vs H2 k2 rs2 r2 h2 => ⟨d, ds, F2, S2, Qd, rs2, Rp.tk k2.toRK _ _ r1, r2, h2, fe.tk (k1.trans k2)⟩, fx.tk k1⟩
theorem q_met0 {T id : String} {name : Str} {o : Expr} {wo : WEx} {w : D → List D → Sto → PoE → Prop} {apos cpos : Pos} (hK : X.K = G.K) (pa : PlainAttrs T) (slot : Slot T name id) (hty : typeOf (.builtin id) = pure (.type "method_descriptor"))
    (hm : MtR X id (LM G w)) (hT : T = "list" ∨ T = "str") (ho : PE X o (LE G W wo)) (hb : baseC o = true) (hl : (apos.endLine == cpos.line) = true) :
    PE X (.Call (.Attribute o name apos) [] [] cpos) (LE G W (fun fr S Q E => wo fr S (fun x S1 => tyD S1 x = some T ∧ w x [] S1 Q) E)) := by
  refine ⟨fun pins s σ H Q I h => (pe_bm0 (apos := apos) (cpos := cpos) pa slot hty hm ho (base_ok hb _) hl).run pins s σ H Q I ?_⟩
  obtain ⟨fr, F, S, Qd, Ed, rf, rs, hw, fe, fx⟩ := h
  exact ⟨fr, F, S, _, Ed, rf, rs, hw, fun d F1 S1 v H1 k1 rs1 r1 h1 => ⟨tyV_ok hK rs1 r1 hT h1.1, d, [], F1, S1, Qd, rs1, r1, Rps.mk0, h1.2, fe.tk k1⟩, fx⟩

noncomputable def LPo (G : Gx) (W : WX) (l : Bool) (w : WEx) : TO := fun σ H Q => ∃ fr F S Ed, RF G ⟨F, S, H⟩ fr σ ∧ RS G ⟨F, S, H⟩ ∧ (∃ R : Option Int → Sto → Prop, (if l = true then w fr S (fun d S1 => match d with
    | .int i => R (some i) S1
    | _ => False) Ed else R none S) ∧ ∀ i F' S' H', TK ⟨F, S, H⟩ ⟨F', S', H'⟩ → RS G ⟨F', S', H'⟩ → R i S' → Q i H') ∧ FX G ⟨F, S, H⟩ Ed fun c d H' => W c d σ H'
theorem q_po1 {e : Expr} {w : WEx} (h : PE X e (LE G W w)) : PO X (some e) (LPo G W true w) := by
  refine ⟨fun pins s σ H Q I hh => (po_some h).run pins s σ H Q I ?_⟩
  obtain ⟨fr, F, S, Ed, rf, rs, ⟨R, hw, fe⟩, fx⟩ := hh
  rw [if_pos rfl] at hw
  refine ⟨fr, F, S, _, Ed, rf, rs, hw, fun d F1 S1 v H1 k1 rs1 r1 h1 => ?_, fx⟩
  (try dsimp only at h1)
  split at h1
  · cases Rp.int.mp r1
    exact ⟨_, rfl, fe _ F1 S1 H1 k1 rs1 h1⟩
  · exact h1.elim
theorem q_po0 {w : WEx} : PO X none (LPo G W false w) := by
  refine ⟨fun pins s σ H Q I hh => po_none.run pins s σ H Q I ?_⟩
  obtain ⟨fr, F, S, Ed, rf, rs, ⟨R, hw, fe⟩, fx⟩ := hh
  exact fe _ F S H (TK.refl _) rs hw
theorem q_slc {o : Expr} {lo hi : Option Expr} {l h fz : Bool} {wo wl wh : WEx} {p2 : Pos} (hK : X.K = G.K) (ho : PE X o (LE G W wo)) (hl : PO X lo (LPo G W l wl)) (hh : PO X hi (LPo G W h wh)) :
    PE X (.Subscript o (.Slice lo hi none p2) pos) (LE G W (fun fr S Q E => wo fr S (fun x S1 =>
      if l = true then wl fr S1 (fun i S2 => match i with
        | .int i => if h = true then wh fr S2 (fun j S3 => match j with
            | .int j => wpSl fz x (some i) (some j) S3 Q
            | _ => False) E else wpSl fz x (some i) none S2 Q
        | _ => False) E
      else if h = true then wh fr S1 (fun j S3 => match j with
            | .int j => wpSl fz x none (some j) S3 Q
            | _ => False) E else wpSl fz x none none S1 Q) E)) := by
  refine ⟨fun pins s σ H Q I q => (pe_slice (pos := pos) (p2 := p2) (sb_sl (fz := fz) hK) ho hl hh).run pins s σ H Q I ?_⟩
  obtain ⟨fr, F, S, Qd, Ed, rf, rs, hw, fe, fx⟩ := q
  refine ⟨fr, F, S, _, Ed, rf, rs, hw, fun x F1 S1 v H1 k1 rs1 r1 h1 => ?_, fx⟩
  have last : ∀ (i j : Option Int) F3 S3 H3, TK ⟨F1, S1, H1⟩ ⟨F3, S3, H3⟩ → RS G ⟨F3, S3, H3⟩ → wpSl fz x i j S3 Qd → LSl G (wpSl fz) v i j H3 Q := fun i j F3 S3 H3 k3 rs3 q => ⟨x, F3, S3, Qd, rs3, Rp.tk k3.toRK _ _ r1, q, fe.tk (k1.trans k3)⟩
  refine ⟨fr, F1, S1, Ed, rf.tk k1.toRK, rs1, ⟨fun i S2 => if h = true then wh fr S2 (fun j S3 => match j with
            | .int j => wpSl fz x i (some j) S3 Qd
            | _ => False) Ed else wpSl fz x i none S2 Qd, ?_, fun i F2 S2 H2 k2 rs2 h2 => ?_⟩, fx.tk k1⟩
  · cases l with
    | true =>
      rw [if_pos rfl] at h1 ⊢
      exact h1
    | false => exact h1
  · refine ⟨fr, F2, S2, Ed, (rf.tk k1.toRK).tk k2.toRK, rs2, ⟨fun j S3 => wpSl fz x i j S3 Qd, h2, fun j F3 S3 H3 k3 rs3 h3 => last i j F3 S3 H3 (k2.trans k3) rs3 h3⟩, fx.tk (k1.trans k2)⟩
theorem q_chain {op op' : CmpOp} {w w' : W2} {cc : Expr} {wc : WEx} (ho : OpR X (compareOp op) (L2o G w)) (ho' : OpR X (compareOp op') (L2o G w')) (ha : PE X a (LE G W wa)) (hb : PE X b (LE G W wb)) (hc : PE X cc (LE G W wc)) (hm : behindInMarks op' cc = false) :
    PE X (.Compare a [op, op'] [b, cc] pos) (LE G W (fun fr S Q E => wa fr S (fun x S1 => wb fr S1 (fun y S2 => w x y S2 (fun r S3 => match r with
      | .bl true => wc fr S3 (fun z S4 => w' y z S4 Q) E
      | .bl false => Q (.bl false) S3
      | _ => False)) E) E)) := by
  refine ⟨fun pins s σ H Q I h => (pe_chain (pos := pos) ho ho' ha hb hc hm).run pins s σ H Q I ?_⟩
  obtain ⟨fr, F, S, Qd, Ed, rf, rs, hw, fe, fx⟩ := h
  refine ⟨fr, F, S, _, Ed, rf, rs, hw, fun d F1 S1 v H1 k1 rs1 r1 h1 => ⟨fr, F1, S1, _, Ed, rf.tk k1.toRK, rs1, h1, fun d2 F2 S2 v2 H2 k2 rs2 r2 h2 => ⟨d, d2, F2, S2, _, rs2, Rp.tk k2.toRK _ _ r1, r2, h2, fun d3 F3 S3 v3 H3 k3 rs3 r3 h3 => ?_⟩, fx.tk k1⟩, fx⟩
  (try dsimp only at h3)
  split at h3
  · cases Rp.bl.mp r3
    exact ⟨true, rfl, iteT ⟨fr, F3, S3, _, Ed, ((rf.tk k1.toRK).tk k2.toRK).tk k3.toRK, rs3, h3, fun d4 F4 S4 v4 H4 k4 rs4 r4 h4 => ⟨d2, d4, F4, S4, Qd, rs4, Rp.tk (k3.trans k4).toRK _ _ r2, r4, h4, fe.tk (((k1.trans k2).trans k3).trans k4)⟩, fx.tk ((k1.trans k2).trans k3)⟩⟩
  · cases Rp.bl.mp r3
    exact ⟨false, rfl, iteF (fe _ F3 S3 _ H3 ((k1.trans k2).trans k3) rs3 (Rp.bl.mpr rfl) h3)⟩
  · exact h3.elim
theorem qt_chain {op op' : CmpOp} {w w' : W2} {cc : Expr} {wc : WEx} (ho : OpR X (compareOp op) (L2o G w)) (ho' : OpR X (compareOp op') (L2o G w')) (ha : PE X a (LE G W wa)) (hb : PE X b (LE G W wb)) (hc : PE X cc (LE G W wc)) (hm : behindInMarks op' cc = false) :
    PT X (.Compare a [op, op'] [b, cc] pos) (LT G W (fun fr S Q E => wa fr S (fun x S1 => wb fr S1 (fun y S2 => w x y S2 (fun r S3 => match r with
      | .bl true => wc fr S3 (fun z S4 => w' y z S4 Q) E
      | .bl false => Q (.bl false) S3
      | _ => False)) E) E)) := by
  refine ⟨fun pins s σ H Q I h => (pt_chain (pos := pos) ho ho' ha hb hc hm).run pins s σ H Q I ?_⟩
  obtain ⟨fr, F, S, Qd, Ed, rf, rs, hw, fe, fx⟩ := h
  refine ⟨fr, F, S, _, Ed, rf, rs, hw, fun d F1 S1 v H1 k1 rs1 r1 h1 => ⟨fr, F1, S1, _, Ed, rf.tk k1.toRK, rs1, h1, fun d2 F2 S2 v2 H2 k2 rs2 r2 h2 => ⟨d, d2, F2, S2, _, rs2, Rp.tk k2.toRK _ _ r1, r2, h2, fun d3 F3 S3 v3 H3 k3 rs3 r3 h3 => ?_⟩, fx.tk k1⟩, fx⟩
  (try dsimp only at h3)
  split at h3
  · cases Rp.bl.mp r3
    refine ⟨true, rfl, iteT ⟨fr, F3, S3, _, Ed, ((rf.tk k1.toRK).tk k2.toRK).tk k3.toRK, rs3, h3, fun d4 F4 S4 v4 H4 k4 rs4 r4 h4 => ⟨d2, d4, F4, S4, Qd, rs4, Rp.tk (k3.trans k4).toRK _ _ r2, r4, h4, fun d5 F5 S5 v5 H5 k5 rs5 r5 h5 => ?_⟩, fx.tk ((k1.trans k2).trans k3)⟩⟩
    obtain ⟨c, rfl, q⟩ := fe d5 F5 S5 H5 ((((k1.trans k2).trans k3).trans k4).trans k5) rs5 h5
    exact ⟨c, Rp.bl.mp r5, q⟩
  · cases Rp.bl.mp r3
    obtain ⟨c, e, q⟩ := fe _ F3 S3 H3 ((k1.trans k2).trans k3) rs3 h3
    cases e
    exact ⟨false, rfl, iteF ⟨false, rfl, q⟩⟩
  · exact h3.elim
end
end L4

namespace L4
open PySem PySem.Spec PyProof.Rows L2

structure FnG (P : Program) (w : World) (K : PySem.W.Frag) (mg : Str → Option Value) (base : Heap) (k : Nat) (f : Addr) (fd : FuncData) (ps : List Str) (sp : Sp) : Prop where
  len : ∀ vs H Q E, sp vs H Q E → vs.length = ps.length
  go : ∀ (A : Around) (outer : List Env) (s : Shared) (H : Hp) (args : Args) (us : List Value) (vs : List V) (Q : VK) (E : XK), A.guards = some [] → Room k A → Env0 P w K mg base A outer s H → Vals vs us → BindsTo s fd args (ps.zip us) →
    sp vs H Q E → codeAny (model P w) A (.call (.ref f) args) (CR (L2N.CX P w) outer P w H s Q E) s

structure FnGH (P : Program) (w : World) (K : PySem.W.Frag) (mg : Str → Option Value) (base : Heap) (k : Nat) (f : Addr) (fd : FuncData) (ps : List Str) (sp : Addr × Obj → Sp) : Prop where
  len : ∀ p vs H Q E, sp p vs H Q E → vs.length = ps.length
  go : ∀ (A : Around) (outer : List Env) (s : Shared) (H : Hp) (args : Args) (us : List Value) (vs : List V) (Q : VK) (E : XK) (p : Addr × Obj), A.guards = some [] → L2H.RoomH k A → L2H.Hot1 A p → L2H.PinOk outer H s p → Env0 P w K mg base A outer s H → Vals vs us → BindsTo s fd args (ps.zip us) →
    sp p vs H Q E → codeAny (model P w) A (.call (.ref f) args) (CR (L2N.CX P w) outer P w H s Q (fun _ _ _ => False)) s

noncomputable def hxG (G : Gd) (p : Addr × Obj) (i : Nat) (x : Exc) : Gx := { toGd := G, px := fun a' o' => a' = p.1 ∧ o' = p.2, xi := some (i, x) }
noncomputable def SpH (G : Gd) (P : PD) (n k : Nat) (p : Addr × Obj) : Sp := fun vs H Q _ => ∃ f x ds vs' F S Qd, (P.fns[k]? = some f ∧ f.xa = true) ∧ vs = .ref p.1 :: vs' ∧ vs.length = f.ps.length ∧ RS G ⟨F, S, H⟩ ∧ Rps G ⟨F, S, H⟩ ds vs' ∧ XAt (hxG G p 0 x) ⟨F, S, H⟩ x p.1 ∧
  wpCall P n k ds (some x) S Qd noX ∧ FE G ⟨F, S, H⟩ Qd Q
theorem run_G {X : Cx} {k : Nat} {f : Addr} {fd : FuncData} {ps : List Str} {sp : Sp} {W : WX} {pins : List (Addr × Obj)} {σ : L2.St} {H : Hp} {s : Shared} {Q : VK} {us : List Value} {vs : List V} {args : List Value} {kws : List (Str × Value)}
    (F : FnG X.prog X.w X.K X.mg X.base k f fd ps sp) (hg : X.A.guards = some []) (hr : Room k X.A) (tk : L2N.Takes X W) (I : Inv X pins σ H s) (r : Vals vs us) (hb : BindsTo s fd ⟨args, kws⟩ (ps.zip us)) (h : sp vs H Q fun c d H' => W c d σ H') :
    wpAny (model X.prog X.w) X.A (call (.ref f) args kws) (EP X pins σ Q) X.xe s := by
  refine wpAny_call (codeAny_mono (F.go X.A X.stack s H ⟨args, kws⟩ us vs Q _ hg hr I.env0 r hb h) fun res s' hq => ?_)
  match res, hq with
  | .error e, hq => exact L2N.passAt tk σ pins H s e s' I hq
  | .ok (.ret u), hq => exact I.after hq
  | .ok .next, hq => exact hq.elim
  | .ok .brk, hq => exact hq.elim
  | .ok .cont, hq => exact hq.elim

theorem run_mkG {X : Cx} {k : Nat} {C f : Addr} {fd : FuncData} {ps : List Str} {sp : Sp} {W : WX} {pins : List (Addr × Obj)} {σ : L2.St} {H : Hp} {s : Shared} {Q : VK} {us : List Value} {vs : List V} {args : List Value} {kws : List (Str × Value)}
    (M : Mk X.K C f) (F : FnG X.prog X.w X.K X.mg X.base k f fd ps sp) (hg : X.A.guards = some []) (hr : Room (k + 1) X.A) (tk : L2N.Takes X W) (I : Inv X pins σ H s) (r : Vals vs us) (hb : ∀ (s : Shared) (x : Addr), X.K.In s.heap → BindsTo s fd ⟨.ref x :: args, kws⟩ (ps.zip (.ref x :: us)))
    (h : ∀ x dx, H x = none → H dx = none → dx ≠ x → sp (.ref x :: vs) (upd (upd H dx (.own x)) x (.ins C dx [])) (fun v H2 => v = .non ∧ Q (.ref x) H2) fun c d H' => W c d σ H') :
    wpAny (model X.prog X.w) X.A (call (.ref C) args kws) (EP X pins σ Q) X.xe s := by
  have hq := h (s.heap.objs.size + 1) s.heap.objs.size (I.hok.fresh (Nat.le_succ _)) (I.hok.fresh (Nat.le_refl _)) (Nat.ne_of_lt (Nat.lt_succ_self _))
  have I2 := Inv.made (C := C) I
  refine wpAny_call (make_map (f := f) I.kIn M.makes M.init (beq_iff_eq.mp M.fn) (codeAny_mono (F.go _ X.stack _ _ ⟨Value.ref (s.heap.objs.size + 1) :: args, kws⟩ (Value.ref (s.heap.objs.size + 1) :: us) _ _ _ ?_ (hr.make C args kws)
    (I2.env0.make C args kws) (.cons (show RelV (V.ref (s.heap.objs.size + 1)) (Value.ref (s.heap.objs.size + 1)) from rfl) r) (hb _ _ I2.kIn) hq) fun r s' hq' => ?_))
  · exact hg
  cases r with
  | error e => exact L2N.passAt tk σ pins _ _ e s' I2 hq'
  | ok fl =>
    cases fl with
    | ret u =>
      obtain ⟨v, H', I3, rv, ev, q3⟩ := I2.after hq'
      subst ev
      exact ⟨rv, ⟨V.ref (s.heap.objs.size + 1), H', I3, rfl, q3⟩⟩
    | next => exact False.elim hq'
    | brk => exact False.elim hq'
    | cont => exact False.elim hq'

noncomputable def SpD (G : Gd) (P : PD) (n k : Nat) : Sp := fun vs H Q E => ∃ f ds F S Qd Ed, (P.fns[k]? = some f ∧ f.xa = false) ∧ vs.length = f.ps.length ∧ RS G ⟨F, S, H⟩ ∧ Rps G ⟨F, S, H⟩ ds vs ∧ wpCall P n k ds none S Qd Ed ∧ FE G ⟨F, S, H⟩ Qd Q ∧ FX G ⟨F, S, H⟩ Ed E
theorem wpCall_len {P : PD} {n k : Nat} {ds : List D} {S : Sto} {Qd : PoE} {Ed : PoX} {f : Fn} (e : P.fns[k]? = some f) (h : wpCall P n k ds none S Qd Ed) : ds.length = f.ps.length ∧ f.xa = false := by
  cases n with
  | zero => exact h.elim
  | succ n =>
    unfold wpCall at h
    rw [e] at h
    have h2 : f.xa = false := h.1.1
    have h3 := h.1.2
    rw [h2] at h3
    exact ⟨h3, h2⟩
theorem wpCall_some {P : PD} {n k : Nat} {ds : List D} {S : Sto} {Qd : PoE} {Ed : PoX} {ex : Option Exc} (h : wpCall P n k ds ex S Qd Ed) : ∃ f, P.fns[k]? = some f := by
  cases n with
  | zero => exact h.elim
  | succ n =>
    unfold wpCall at h
    cases e : P.fns[k]? with
    | none => rw [e] at h; exact h.elim
    | some f => exact ⟨f, rfl⟩
theorem SpD.of {G : Gd} {P : PD} {n k : Nat} {vs : List V} {F : Addr → Prop} {S : Sto} {H : Hp} {Q : VK} {E : XK} {ds : List D} {Qd : PoE} {Ed : PoX} (rs : RS G ⟨F, S, H⟩) (r : Rps G ⟨F, S, H⟩ ds vs) (h : wpCall P n k ds none S Qd Ed) (fe : FE G ⟨F, S, H⟩ Qd Q) (fx : FX G ⟨F, S, H⟩ Ed E) : SpD G P n k vs H Q E := by
  obtain ⟨f, e⟩ := wpCall_some h
  obtain ⟨h1, h2⟩ := wpCall_len e h
  exact ⟨f, ds, F, S, Qd, Ed, ⟨e, h2⟩, by rw [← r.len]; exact h1, rs, r, h, fe, fx⟩
noncomputable def lev (n : Nat) : Nat := 2 * n + 1

structure ClsG (X : Cx) (G : Gd) (k : Nat) (x : Str) : Prop where
  gl : X.mg x = some (.ref (G.ca k))
  kp : PySem.W.keepIn X.K (.ref (G.ca k)) = true

noncomputable def spI (C : Addr) (fs : List Str) : Sp := fun vs H Q _ => ∃ a xs, vs = .ref a :: xs ∧ xs.length = fs.length ∧ H a = some (exo a C none) ∧
  ∀ dx, H dx = none → dx ≠ a → ∀ H', H' a = some (exo a C (some dx)) → H' dx = some (exd dx (fs.zip xs).reverse) → (∀ b, b ≠ a → b ≠ dx → H' b = H b) → Q .non H'

structure ClsX (X : Cx) (G : Gd) (k : Nat) (fs : List Str) : Prop where
  sub : PySem.W.subIn X.K (.ref (G.ca k)) (.type "BaseException") = some true
  ty : PySem.W.typeIn X.K (.ref (G.ca k)) = some (.type "type")
  make : (fs = [] ∧ ∃ bmB B newId initId, ExcBaseFacts B newId initId bmB ∧ PySem.W.excIn X.K (G.ca k) bmB newId = true) ∨
    (fs ≠ [] ∧ OexC X.K (G.ca k) ∧ ∃ fI fd ps, PySem.W.findIn X.K (.ref (G.ca k)) "__init__" = some (some (.ref fI)) ∧ PySem.W.typeIn X.K (.ref fI) = some (.type "function") ∧ ps.length = fs.length + 1 ∧ FnOk X.prog X.w X.K X.mg X.base CX0 1 fI fd ps (spI (G.ca k) fs) ∧ Binds X.K fd ps [])

structure XcT (K : PySem.W.Frag) (C : Addr) : Prop where
  cl : (PySem.W.clsIn K C).isSome = true
  ga : PySem.W.findIn K (.ref C) "__getattribute__" = some (some (.builtin "BaseException.__getattribute__"))
  gt : PySem.W.findIn K (.ref C) "__getattr__" = some none
  sub : PySem.W.subIn K (.ref C) (.type "BaseException") = some true
  ha : PySem.W.findIn K (.ref C) "__class__" = some (some (.builtin "object.__class__"))
  hn : PySem.W.specialIn K (.builtin "object.__class__") "__get__" = some (some (.builtin "getset_descriptor.__get__"))
  htk : PySem.W.takesIn K (.builtin "object.__class__") = some true
  hm : PySem.W.mroIn K C (.type "object") = some true
  hd : PySem.W.hasDictIn K C = true
structure XisF (K : PySem.W.Frag) (G : Gd) (P : PD) : Prop where
  t : ∀ k, P.exc k = true → XcT K (G.ca k)
  cc : ∀ k j, P.exc k = true → P.exc j = true → PySem.W.kitOne K (.ref (G.ca k)) (.ref (G.ca j)) = some (P.sub k j)
  ct : ∀ k, P.exc k = true → PySem.W.kitOne K (.ref (G.ca k)) (.type "ValueError") = some true
  fd : ∀ k j, P.exc k = true → P.exc j = true → ∀ f ∈ P.xfs j, PySem.W.findIn K (.ref (G.ca k)) f = some none

structure Facts (X : Cx) (G : Gd) (P : PD) (n : Nat) : Prop where
  K : X.K = G.K
  sm : SmD X.base
  fns : ∀ k f, P.fns[k]? = some f → ∃ fd, FnG X.prog X.w X.K X.mg X.base (lev n) (G.fa k) fd f.ps (SpD G P n k) ∧ Binds X.K fd f.ps [] ∧
    (∀ q ∈ f.kw, ∃ dvs : List Value, (∃ vs, Vals vs dvs ∧ ∀ m, Rps G m q.2.2.2 vs) ∧ ∀ s us ws, X.K.In s.heap → us.length = q.1 → ws.length = q.2.1.length → BindsTo s fd ⟨us, q.2.1.zip ws⟩ (f.ps.zip (pick q.2.2.1 (us ++ ws ++ dvs))))
  hot : ∀ k f, P.fns[k]? = some f → f.xa = true → ∃ fd, FnGH X.prog X.w X.K X.mg X.base (lev n) (G.fa k) fd f.ps (SpH G P n k) ∧ Binds X.K fd f.ps []
  kp : ∀ k, PySem.W.keepIn X.K (.ref (G.fa k)) = true
  gl : ∀ k f, P.fns[k]? = some f → f.name ∈ P.gls → X.mg f.name = some (.ref (G.fa k))
  blt : ∀ x, x ∈ P.blts → X.mg x = none
  cls : ∀ k x, P.cls[k]? = some x → ClsG X G k x
  isi : IsiF X.K G P.toPg
  fld : ∀ k x, x ∈ P.flds k → Cls X.K (G.ca k) ∧ NoAttr X.K (G.ca k) x
  mth : ∀ k x j, P.mth k x = some j → Cls X.K (G.ca k) ∧ Meth X.K (G.ca k) x (G.fa j)
  make : ∀ c j, P.ini c = some j → Mk X.K (G.ca c) (G.fa j)
  gcs : ∀ (j : Nat) (x : Str) (d : D), P.gcs[j]? = some (x, d) → ∃ u v, X.mg x = some u ∧ RelV v u ∧ ∀ m, Rp G m d v
  exc : ∀ k x, P.cls[k]? = some x → P.exc k = true → ClsX X G k (P.xfs k)
  exm : ∀ i j, P.exc i = true → P.exc j = true → PySem.W.exmOne X.K (.ref (G.ca i)) (.ref (G.ca j)) = some (P.sub i j)
  xis : XisF X.K G P
theorem Facts.other {X Y : Cx} {G : Gd} {P : PD} {n : Nat} (F : Facts X G P n) (h1 : Y.prog = X.prog) (h2 : Y.w = X.w) (h3 : Y.K = X.K) (h4 : Y.mg = X.mg) (h5 : Y.base = X.base) : Facts Y G P n := by
  constructor
  · rw [h3]; exact F.K
  · rw [h5]; exact F.sm
  · rw [h1, h2, h3, h4, h5]; exact F.fns
  · rw [h1, h2, h3, h4, h5]; exact F.hot
  · rw [h3]; exact F.kp
  · rw [h4]; exact F.gl
  · rw [h4]; exact F.blt
  · intro k x e
    have h := F.cls k x e
    exact ⟨by rw [h4]; exact h.gl, by rw [h3]; exact h.kp⟩
  · rw [h3]; exact F.isi
  · rw [h3]; exact F.fld
  · rw [h3]; exact F.mth
  · rw [h3]; exact F.make
  · rw [h4]; exact F.gcs
  · intro k x e i
    have h := F.exc k x e i
    exact ⟨by rw [h3]; exact h.sub, by rw [h3]; exact h.ty, by rw [h1, h2, h3, h4, h5]; exact h.make⟩
  · rw [h3]; exact F.exm
  · rw [h3]; exact F.xis
section
variable {X : Cx} {G : Gx} {W : WX} {a b t : Expr} {wa wb wt : WEx} {pos : Pos}

theorem q_knil : PK X [] (LA G W (fun _ S Q _ => Q [] S)) := by
  refine ⟨fun pos pins s σ H Q I h => pk_nil.run pos pins s σ H Q I ?_⟩
  obtain ⟨fr, F, S, Qd, Ed, rf, rs, hw, fa, fx⟩ := h
  exact fa [] F S [] H (TK.refl _) rs Rps.mk0 hw
theorem q_kcons {kws : List Keyword} {ws : WLs} {nm : Option Str} {kp : Pos} (ha : PE X a (LE G W wa)) (hr : PK X kws (LA G W ws)) : PK X (⟨nm, a, kp⟩ :: kws) (LA G W (fun fr S Q E => wa fr S (fun d S1 => ws fr S1 (fun ds S2 => Q (d :: ds) S2) E) E)) := by
  refine ⟨fun pos pins s σ H Q I h => (pk_cons ha hr).run pos pins s σ H Q I ?_⟩
  obtain ⟨fr, F, S, Qd, Ed, rf, rs, hw, fa, fx⟩ := h
  exact ⟨fr, F, S, _, Ed, rf, rs, hw, fun d F1 S1 v H1 k1 rs1 r1 h1 => ⟨fr, F1, S1, _, Ed, rf.tk k1.toRK, rs1, h1, fun ds F2 S2 vs H2 k2 rs2 r2 h2 => fa (d :: ds) F2 S2 (v :: vs) H2 (k1.trans k2) rs2 (Rps.mk (Rp.tk k2.toRK _ _ r1) r2) h2, fx.tk k1⟩, fx⟩
theorem kw_names {env : Env} : ∀ {kws : List Keyword} {nm : List Str}, kws.map (·.arg) = nm.map some →
    (backToKw pos (keywordEach kws env)).all (·.1.isSome) = true ∧ (backToKw pos (keywordEach kws env)).filterMap (·.1) = nm ∧ (backToKw pos (keywordEach kws env)).any (·.1.isNone) = false
  | [], [], _ => ⟨rfl, rfl, rfl⟩
  | [], _ :: _, h => by cases h
  | _ :: _, [], h => by cases h
  | ⟨n, e, p⟩ :: kws, x :: nm, h => by
    injection h with h1 h2
    have h1 : n = some x := h1
    subst h1
    obtain ⟨i1, i2, i3⟩ := kw_names (env := env) h2
    exact ⟨i1, by show x :: (backToKw pos (keywordEach kws env)).filterMap (·.1) = x :: nm; rw [i2], i3⟩
theorem pickV {xs : List V} {us : List Value} (r : Vals xs us) : ∀ pt : List Nat, Vals (L4.pick pt xs) (L4.pick pt us)
  | [] => .nil
  | j :: pt => by
    have ih := pickV r pt
    unfold L4.pick at ih ⊢
    rw [List.filterMap_cons, List.filterMap_cons]
    cases e : xs[j]? with
    | none => rw [r.none_of e]; exact ih
    | some x =>
      obtain ⟨u, hu, ru⟩ := r.get e
      rw [hu]
      exact .cons ru ih
theorem Rps.pick {m : Wd} {ds : List D} {vs : List V} (r : Rps G m ds vs) : ∀ pt : List Nat, Rps G m (L4.pick pt ds) (L4.pick pt vs)
  | [] => Rps.mk0
  | j :: pt => by
    have ih := Rps.pick r pt
    unfold L4.pick at ih ⊢
    rw [List.filterMap_cons, List.filterMap_cons]
    cases e : ds[j]? with
    | none => rw [r.none_of e]; exact ih
    | some x =>
      obtain ⟨u, hu, ru⟩ := r.get e
      rw [hu]
      exact Rps.mk ru ih

theorem cw_run {u : Value} {first : List Value} {e : Expr} {es : List Expr} {kws : List Keyword} {nm : List Str} {ws wk : WLs} {K : List D → List D → Sto → Prop}
    (hk : PySem.W.keepIn X.K u = true) (ha : PA X (e :: es) (LA G W ws)) (hs : noStar e = true) (hs2 : es.all noStar = true) (hkw : PK X kws (LA G W wk)) (hn : kws.map (·.arg) = nm.map some)
    {pins : List (Addr × Obj)} {s : Shared} {σ : L2.St} {F : Addr → Prop} {S : Sto} {H : Hp} {Q : Value → Shared → Prop} (I : Inv X pins σ H s) {fr : Fr} {Ed : PoX} (rf : RF G ⟨F, S, H⟩ fr σ) (rs : RS G ⟨F, S, H⟩)
    (hw : ws fr S (fun ds S1 => wk fr S1 (fun zs S2 => K ds zs S2) Ed) Ed) (fx : FX G ⟨F, S, H⟩ Ed fun c d H' => W c d σ H')
    (hrun : ∀ (s2 : Shared) (H2 : Hp) (us wz : List Value) (vs zs : List V) (F2 : Addr → Prop) (S2 : Sto) (ds es' : List D), Inv X pins σ H2 s2 → Vals vs us → Vals zs wz → TK ⟨F, S, H⟩ ⟨F2, S2, H2⟩ → RS G ⟨F2, S2, H2⟩ → Rps G ⟨F2, S2, H2⟩ ds vs → Rps G ⟨F2, S2, H2⟩ es' zs → K ds es' S2 →
      wpAny (model X.prog X.w) X.A (call u (first ++ us) (nm.zip wz)) Q X.xe s2) :
    wpAny (model X.prog X.w) X.A (callWith pos u first (backTo pos (starEach (e :: es) X.env)) (backToKw pos (keywordEach kws X.env))) Q X.xe s := by
  obtain ⟨k1, k2, k3⟩ := kw_names (pos := pos) (env := X.env) hn
  refine PySem.W.callWith_KW (h₀ := X.base) I.ok.mod.kin hk k1 (thn (ha.run pos pins s σ H (fun vs H1 => ∃ ds F1 S1, TK ⟨F, S, H⟩ ⟨F1, S1, H1⟩ ∧ RS G ⟨F1, S1, H1⟩ ∧ Rps G ⟨F1, S1, H1⟩ ds vs ∧ wk fr S1 (fun zs S2 => K ds zs S2) Ed) I
      ⟨fr, F, S, _, Ed, rf, rs, hw, fun ds F1 S1 vs H1 k1 rs1 r1 h1 => ⟨ds, F1, S1, k1, rs1, r1, h1⟩, fx⟩) fun us s1 hq => ?_) (by rw [k3, star_cons hs]; show ((false || (backTo pos (starEach es X.env)).any (·.1)) || false) = false; rw [star_any hs2]; rfl) (star_cons hs)
  obtain ⟨vs, H1, I1, rv, ds, F1, S1, t1, rs1, r1, h1⟩ := hq
  refine thn (hkw.run pos pins s1 σ H1 (fun zs H2 => ∃ es' F2 S2, TK ⟨F1, S1, H1⟩ ⟨F2, S2, H2⟩ ∧ RS G ⟨F2, S2, H2⟩ ∧ Rps G ⟨F2, S2, H2⟩ es' zs ∧ K ds es' S2) I1 ⟨fr, F1, S1, _, Ed, rf.tk t1.toRK, rs1, h1, fun es' F2 S2 zs H2 k2 rs2 r2 h2 => ⟨es', F2, S2, k2, rs2, r2, h2⟩, fx.tk t1⟩) fun vz s2 hq => ?_
  obtain ⟨zs, H2, I2, rz, es', F2, S2, t2, rs2, r2, h2⟩ := hq
  rw [k2]
  exact ⟨I2.kIn, hrun s2 H2 us vz vs zs F2 S2 ds es' I2 rv rz (t1.trans t2) rs2 (Rps.tk t2.toRK _ _ r1) r2 h2⟩
theorem cw_run0 {u : Value} {first : List Value} {kws : List Keyword} {nm : List Str} {wk : WLs} {K : List D → Sto → Prop}
    (hk : PySem.W.keepIn X.K u = true) (hkw : PK X kws (LA G W wk)) (hn : kws.map (·.arg) = nm.map some)
    {pins : List (Addr × Obj)} {s : Shared} {σ : L2.St} {F : Addr → Prop} {S : Sto} {H : Hp} {Q : Value → Shared → Prop} (I : Inv X pins σ H s) {fr : Fr} {Ed : PoX} (rf : RF G ⟨F, S, H⟩ fr σ) (rs : RS G ⟨F, S, H⟩)
    (hw : wk fr S (fun zs S2 => K zs S2) Ed) (fx : FX G ⟨F, S, H⟩ Ed fun c d H' => W c d σ H')
    (hrun : ∀ (s2 : Shared) (H2 : Hp) (wz : List Value) (zs : List V) (F2 : Addr → Prop) (S2 : Sto) (es' : List D), Inv X pins σ H2 s2 → Vals zs wz → TK ⟨F, S, H⟩ ⟨F2, S2, H2⟩ → RS G ⟨F2, S2, H2⟩ → Rps G ⟨F2, S2, H2⟩ es' zs → K es' S2 →
      wpAny (model X.prog X.w) X.A (call u (first ++ []) (nm.zip wz)) Q X.xe s2) :
    wpAny (model X.prog X.w) X.A (callWith pos u first (backTo pos (starEach [] X.env)) (backToKw pos (keywordEach kws X.env))) Q X.xe s := by
  obtain ⟨k1, k2, k3⟩ := kw_names (pos := pos) (env := X.env) hn
  refine PySem.W.callWith_KW0 (h₀ := X.base) I.ok.mod.kin hk k1 ?_ (by rw [k3]; rfl)
  refine thn (hkw.run pos pins s σ H (fun zs H2 => ∃ es' F2 S2, TK ⟨F, S, H⟩ ⟨F2, S2, H2⟩ ∧ RS G ⟨F2, S2, H2⟩ ∧ Rps G ⟨F2, S2, H2⟩ es' zs ∧ K es' S2) I ⟨fr, F, S, _, Ed, rf, rs, hw, fun es' F2 S2 zs H2 k2 rs2 r2 h2 => ⟨es', F2, S2, k2, rs2, r2, h2⟩, fx⟩) fun vz s2 hq => ?_
  obtain ⟨zs, H2, I2, rz, es', F2, S2, t2, rs2, r2, h2⟩ := hq
  rw [k2]
  exact ⟨I2.kIn, hrun s2 H2 vz zs F2 S2 es' I2 rz t2 rs2 r2 h2⟩

theorem run_D {P : PD} {n k : Nat} {f : Fn} (Fa : Facts X G P n) (e : P.fns[k]? = some f) (hg : X.A.guards = some []) (hr : Room (lev n) X.A) (tk : L2N.Takes X W)
    {pins : List (Addr × Obj)} {s : Shared} {σ : L2.St} {F : Addr → Prop} {S : Sto} {H : Hp} {Q : VK} {us : List Value} {vs : List V} {ds : List D} {Qd : PoE} {Ed : PoX} (I : Inv X pins σ H s) (rv : Vals vs us) (rs : RS G ⟨F, S, H⟩) (r : Rps G ⟨F, S, H⟩ ds vs)
    (h : wpCall P n k ds none S Qd Ed) (fe : FE G ⟨F, S, H⟩ Qd Q) (fx : FX G ⟨F, S, H⟩ Ed (fun c d H' => W c d σ H')) : wpAny (model X.prog X.w) X.A (PySem.call (.ref (G.fa k)) us) (EP X pins σ Q) X.xe s := by
  obtain ⟨fd, Fn, hb, _⟩ := Fa.fns k f e
  have sp := SpD.of rs r h fe fx
  have hl : us.length = f.ps.length := by rw [← rv.length]; exact Fn.len _ _ _ _ sp
  have b := hb s us I.kIn (by rw [List.append_nil]; exact hl)
  rw [List.append_nil] at b
  exact run_G Fn hg hr tk I rv b sp
theorem q_call {P : PD} {n k : Nat} {f : Fn} {p : Pos} {e : Expr} {es : List Expr} {ws : WLs} (Fa : Facts X G P n) (ef : P.fns[k]? = some f) (hgl : f.name ∈ P.gls) (hg : X.A.guards = some []) (hr : Room (lev n) X.A) (tk : L2N.Takes X W) (gl : Gl X f.name) (hd : (f.name == ("__debug__" : Str)) = false)
    (ha : PA X (e :: es) (LA G W ws)) (hs : noStar e = true) (hs2 : es.all noStar = true) :
    PE X (.Call (.Name f.name p) (e :: es) [] pos) (LE G W (fun fr S Q E => ws fr S (fun ds S1 => wpCall P n k ds none S1 Q E) E)) := by
  refine ⟨fun pins s σ H Q I h => ?_⟩
  obtain ⟨fr, F, S, Qd, Ed, rf, rs, hw, fe, fx⟩ := h
  refine wpAny_Call_Name_kw (ld_glob I gl (Fa.gl k f ef hgl) ?_ hd)
  refine cw_run (nm := []) (K := fun ds zs S2 => wpCall P n k ds none S2 Qd Ed) (Fa.kp k) ha hs hs2 q_knil rfl I rf rs hw fx fun s2 H2 us wz vs zs F2 S2 ds es' I2 rv rz t rs2 r1 r2 h2 => ?_
  exact run_D Fa ef hg hr tk I2 rv rs2 r1 h2 (fe.tk t) (fx.tk t)
theorem q_call0 {P : PD} {n k : Nat} {f : Fn} {p : Pos} (Fa : Facts X G P n) (ef : P.fns[k]? = some f) (hgl : f.name ∈ P.gls) (hg : X.A.guards = some []) (hr : Room (lev n) X.A) (tk : L2N.Takes X W) (gl : Gl X f.name) (hd : (f.name == ("__debug__" : Str)) = false) :
    PE X (.Call (.Name f.name p) [] [] pos) (LE G W (fun fr S Q E => wpCall P n k [] none S Q E)) := by
  refine ⟨fun pins s σ H Q I h => ?_⟩
  obtain ⟨fr, F, S, Qd, Ed, rf, rs, hw, fe, fx⟩ := h
  refine wpAny_Call_Name_kw (ld_glob I gl (Fa.gl k f ef hgl) ?_ hd)
  refine cw_run0 (nm := []) (K := fun zs S2 => wpCall P n k [] none S2 Qd Ed) (Fa.kp k) q_knil rfl I rf rs hw fx fun s2 H2 wz zs F2 S2 es' I2 rz t rs2 r2 h2 => ?_
  exact run_D Fa ef hg hr tk I2 .nil rs2 Rps.mk0 h2 (fe.tk t) (fx.tk t)

end
end L4

namespace L4
open PySem PySem.Spec PyProof.Rows L2
theorem pick_succ {α : Type} (x : α) (l : List α) : ∀ pt : List Nat, L4.pick (pt.map (· + 1)) (x :: l) = L4.pick pt l
  | [] => rfl
  | j :: pt => by
    have ih := pick_succ x l pt
    unfold L4.pick at ih ⊢
    rw [List.map_cons, List.filterMap_cons, List.filterMap_cons, List.getElem?_cons_succ, ih]
theorem pick_self {α : Type} (x : α) (l : List α) (pt : List Nat) : L4.pick (0 :: pt.map (· + 1)) (x :: l) = x :: L4.pick pt l := by
  have := pick_succ x l pt
  unfold L4.pick at this ⊢
  rw [List.filterMap_cons, List.getElem?_cons_zero, this]
section
variable {X : Cx} {G : Gx} {W : WX} {a b t : Expr} {wa wb wt : WEx} {pos : Pos}

theorem run_M {P : PD} {n k : Nat} {f : Fn} {m : Nat} {nm : List Str} {pt : List Nat} {dv : List D} (Fa : Facts X G P n) (ef : P.fns[k]? = some f) (hg : X.A.guards = some []) (hr : Room (lev n) X.A) (tk : L2N.Takes X W) (hm : (m + 1, nm, 0 :: pt.map (· + 1), dv) ∈ f.kw)
    {pins : List (Addr × Obj)} {s : Shared} {σ : L2.St} {F : Addr → Prop} {S : Sto} {H : Hp} {Q : VK} {ra : Addr} {rd : D} {us ws : List Value} {vs zs : List V} {ds es : List D} {Qd : PoE} {Ed : PoX} (I : Inv X pins σ H s) (rr : Rp G ⟨F, S, H⟩ rd (.ref ra)) (rv : Vals vs us) (rz : Vals zs ws) (l1 : us.length = m) (l2 : ws.length = nm.length)
    (rs : RS G ⟨F, S, H⟩) (r : Rps G ⟨F, S, H⟩ ds vs) (r' : Rps G ⟨F, S, H⟩ es zs) (h : wpCall P n k (rd :: pick pt (ds ++ es ++ dv)) none S Qd Ed) (fe : FE G ⟨F, S, H⟩ Qd Q) (fx : FX G ⟨F, S, H⟩ Ed (fun c d H' => W c d σ H')) : wpAny (model X.prog X.w) X.A (PySem.call (.ref (G.fa k)) (.ref ra :: us) (nm.zip ws)) (EP X pins σ Q) X.xe s := by
  obtain ⟨fd, Fn, _, hb⟩ := Fa.fns k f ef
  obtain ⟨dvs, ⟨vd, rdv, rp⟩, hb⟩ := hb _ hm
  have b := hb s (.ref ra :: us) ws I.kIn (by rw [List.length_cons, l1]) l2
  dsimp only at b
  rw [List.cons_append, List.cons_append, pick_self] at b
  exact run_G Fn hg hr tk I (.cons (show RelV (V.ref ra) (Value.ref ra) from rfl) (pickV ((rv.append rz).append rdv) pt)) b (SpD.of rs (Rps.mk rr (Rps.pick ((r.append r').append (rp _)) pt)) h fe fx)
theorem lookup_none {x : Str} : ∀ {vs : List (Str × V)} {fs : List (Str × D)}, vs.map (·.1) = fs.map (·.1) → fs.lookup x = none → vs.lookup x = none
  | [], _, _, _ => rfl
  | _ :: _, [], e, _ => by simp at e
  | p :: vs, q :: fs, e1, e2 => by
    simp only [List.map_cons, List.cons.injEq] at e1
    rw [List.lookup_cons] at e2 ⊢
    rw [e1.1]
    cases hh : x == q.1 with
    | true => rw [hh] at e2; cases e2
    | false => rw [hh] at e2; exact lookup_none e1.2 e2

theorem q_mcl {P : PD} {n : Nat} {x : Str} {apos : Pos} {nm : List Str} {pt : List Nat} {dv : List D} {o e : Expr} {es : List Expr} {kws : List Keyword} {wo : WEx} {ws wk : WLs} {m : Nat} {pl : Sem Bool} (Fa : Facts X G P n) (hg : X.A.guards = some []) (hr : Room (lev n) X.A) (tk : L2N.Takes X W)
    (hall : ∀ c k, c < P.ncl → P.mth c x = some k → ∃ f, P.fns[k]? = some f ∧ (m + 1, nm, 0 :: pt.map (· + 1), dv) ∈ f.kw) (hn : kws.map (·.arg) = nm.map some) (ho : PE X o (LE G W wo)) (ha : PA X (e :: es) (LA G W ws)) (hs : noStar e = true) (hs2 : es.all noStar = true) (hkw : PK X kws (LA G W wk))
    (ht : eval (.Call (.Attribute o x apos) (e :: es) kws pos) X.env = (do
      let ov ← eval o X.env
      standAt apos.atName
      let (f, first) ← holding [ov] (getMethod ov x pl)
      callWith pos f first (backTo pos (starEach (e :: es) X.env)) (backToKw pos (keywordEach kws X.env)))) :
    PE X (.Call (.Attribute o x apos) (e :: es) kws pos) (LE G W (fun fr S Q E => wo fr S (fun a S0 => match iv S0 a with
      | some (c, fs) => (c < P.ncl ∧ fs.lookup x = none) ∧ (match P.mth c x with
        | some k => ws fr S0 (fun ds S1 => wk fr S1 (fun zs S2 => (ds.length = m ∧ zs.length = nm.length) ∧ wpCall P n k (a :: pick pt (ds ++ zs ++ dv)) none S2 Q E) E) E
        | none => False)
      | none => False) E)) := by
  refine ⟨fun pins s σ H Q I h => ?_⟩
  obtain ⟨fr, F, S, Qd, Ed, rf, rs, hw, fe, fx⟩ := h
  refine PySem.W.methodCall_KW (pl := pl) (thn (ho.run pins s σ H (fun v H1 => ∃ a F1 S1, TK ⟨F, S, H⟩ ⟨F1, S1, H1⟩ ∧ RS G ⟨F1, S1, H1⟩ ∧ Rp G ⟨F1, S1, H1⟩ a v ∧ (match iv S1 a with
      | some (c, fs) => (c < P.ncl ∧ fs.lookup x = none) ∧ (match P.mth c x with
        | some k => ws fr S1 (fun ds S1 => wk fr S1 (fun zs S2 => (ds.length = m ∧ zs.length = nm.length) ∧ wpCall P n k (a :: pick pt (ds ++ zs ++ dv)) none S2 Qd Ed) Ed) Ed
        | none => False)
      | none => False)) I ⟨fr, F, S, _, Ed, rf, rs, hw, fun a F1 S1 v H1 k1 rs1 r1 h1 => ⟨a, F1, S1, k1, rs1, r1, h1⟩, fx⟩) fun u s1 hq => ?_) ht
  obtain ⟨v, H1, I1, ru, a, F1, S1, k1, rs1, r1, h1⟩ := hq
  split at h1
  · rename_i kc fs ei
    obtain ⟨⟨hcl, hl⟩, h2⟩ := h1
    split at h2
    · rename_i k ek
      obtain ⟨f, ef, hm⟩ := hall kc k hcl ek
      obtain ⟨hc, hme⟩ := Fa.mth kc x k ek
      obtain ⟨ra, dx, vs, rfl, hH, hf⟩ := iv_ok rs1 r1 ei
      cases ru
      refine getmeth_ok I1 hH hc hme (lookup_none hf.1 hl) ?_
      refine cw_run (first := [.ref ra]) (K := fun ds zs S2 => (ds.length = m ∧ zs.length = nm.length) ∧ wpCall P n k (a :: pick pt (ds ++ zs ++ dv)) none S2 Qd Ed) hme.kp ha hs hs2 hkw hn I1 (rf.tk k1.toRK) rs1 h2 (fx.tk k1) fun s2 H2 us wz vs zs F2 S2 ds es' I2 rv rz t rs2 r3 r4 h3 => ?_
      exact run_M Fa ef hg hr tk hm I2 (Rp.tk t.toRK _ _ r1) rv rz (by show us.length = m; rw [← rv.length, ← r3.len, h3.1.1]) (by rw [← rz.length, ← r4.len, h3.1.2]) rs2 r3 r4 h3.2 (fe.tk (k1.trans t)) (fx.tk (k1.trans t))
    · exact h2.elim
  · exact h1.elim
theorem q_mcl0 {P : PD} {n : Nat} {x : Str} {apos : Pos} {nm : List Str} {pt : List Nat} {dv : List D} {o : Expr} {kws : List Keyword} {wo : WEx} {wk : WLs} {pl : Sem Bool} (Fa : Facts X G P n) (hg : X.A.guards = some []) (hr : Room (lev n) X.A) (tk : L2N.Takes X W)
    (hall : ∀ c k, c < P.ncl → P.mth c x = some k → ∃ f, P.fns[k]? = some f ∧ (1, nm, 0 :: pt.map (· + 1), dv) ∈ f.kw) (hn : kws.map (·.arg) = nm.map some) (ho : PE X o (LE G W wo)) (hkw : PK X kws (LA G W wk))
    (ht : eval (.Call (.Attribute o x apos) [] kws pos) X.env = (do
      let ov ← eval o X.env
      standAt apos.atName
      let (f, first) ← holding [ov] (getMethod ov x pl)
      callWith pos f first (backTo pos (starEach [] X.env)) (backToKw pos (keywordEach kws X.env)))) :
    PE X (.Call (.Attribute o x apos) [] kws pos) (LE G W (fun fr S Q E => wo fr S (fun a S0 => match iv S0 a with
      | some (c, fs) => (c < P.ncl ∧ fs.lookup x = none) ∧ (match P.mth c x with
        | some k => wk fr S0 (fun zs S2 => (([] : List D).length = 0 ∧ zs.length = nm.length) ∧ wpCall P n k (a :: pick pt ([] ++ zs ++ dv)) none S2 Q E) E
        | none => False)
      | none => False) E)) := by
  refine ⟨fun pins s σ H Q I h => ?_⟩
  obtain ⟨fr, F, S, Qd, Ed, rf, rs, hw, fe, fx⟩ := h
  refine PySem.W.methodCall_KW (pl := pl) (thn (ho.run pins s σ H (fun v H1 => ∃ a F1 S1, TK ⟨F, S, H⟩ ⟨F1, S1, H1⟩ ∧ RS G ⟨F1, S1, H1⟩ ∧ Rp G ⟨F1, S1, H1⟩ a v ∧ (match iv S1 a with
      | some (c, fs) => (c < P.ncl ∧ fs.lookup x = none) ∧ (match P.mth c x with
        | some k => wk fr S1 (fun zs S2 => (([] : List D).length = 0 ∧ zs.length = nm.length) ∧ wpCall P n k (a :: pick pt ([] ++ zs ++ dv)) none S2 Qd Ed) Ed
        | none => False)
      | none => False)) I ⟨fr, F, S, _, Ed, rf, rs, hw, fun a F1 S1 v H1 k1 rs1 r1 h1 => ⟨a, F1, S1, k1, rs1, r1, h1⟩, fx⟩) fun u s1 hq => ?_) ht
  obtain ⟨v, H1, I1, ru, a, F1, S1, k1, rs1, r1, h1⟩ := hq
  split at h1
  · rename_i kc fs ei
    obtain ⟨⟨hcl, hl⟩, h2⟩ := h1
    split at h2
    · rename_i k ek
      obtain ⟨f, ef, hm⟩ := hall kc k hcl ek
      obtain ⟨hc, hme⟩ := Fa.mth kc x k ek
      obtain ⟨ra, dx, vs, rfl, hH, hf⟩ := iv_ok rs1 r1 ei
      cases ru
      refine getmeth_ok I1 hH hc hme (lookup_none hf.1 hl) ?_
      refine cw_run0 (first := [.ref ra]) (K := fun zs S2 => (([] : List D).length = 0 ∧ zs.length = nm.length) ∧ wpCall P n k (a :: pick pt ([] ++ zs ++ dv)) none S2 Qd Ed) hme.kp hkw hn I1 (rf.tk k1.toRK) rs1 h2 (fx.tk k1) fun s2 H2 wz zs F2 S2 es' I2 rz t rs2 r4 h3 => ?_
      exact run_M (m := 0) Fa ef hg hr tk hm I2 (Rp.tk t.toRK _ _ r1) .nil rz rfl (by rw [← rz.length, ← r4.len, h3.1.2]) rs2 Rps.mk0 r4 h3.2 (fe.tk (k1.trans t)) (fx.tk (k1.trans t))
    · exact h2.elim
  · exact h1.elim

theorem run_C {P : PD} {n k c : Nat} {f : Fn} {m : Nat} {nm : List Str} {pt : List Nat} {dv : List D} (Fa : Facts X G P n) (ek : P.ini c = some k) (ef : P.fns[k]? = some f) (hg : X.A.guards = some []) (hr : Room (lev n + 1) X.A) (tk : L2N.Takes X W) (hm : (m + 1, nm, 0 :: pt.map (· + 1), dv) ∈ f.kw)
    {pins : List (Addr × Obj)} {s : Shared} {σ : L2.St} {F : Addr → Prop} {S : Sto} {H : Hp} {Q : VK} {us ws : List Value} {vs zs : List V} {ds es : List D} {Qd : PoE} {Ed : PoX} (I : Inv X pins σ H s) (rv : Vals vs us) (rz : Vals zs ws) (l1 : us.length = m) (l2 : ws.length = nm.length)
    (rs : RS G ⟨F, S, H⟩) (r : Rps G ⟨F, S, H⟩ ds vs) (r' : Rps G ⟨F, S, H⟩ es zs) (h : ∀ p, S p = none → wpCall P n k (.ref p :: pick pt (ds ++ es ++ dv)) none (S.set p (.ins c [])) (fun r S3 => r = .non ∧ Qd (.ref p) S3) Ed)
    (fe : FE G ⟨F, S, H⟩ Qd Q) (fx : FX G ⟨F, S, H⟩ Ed (fun c d H' => W c d σ H')) : wpAny (model X.prog X.w) X.A (PySem.call (.ref (G.ca c)) us (nm.zip ws)) (EP X pins σ Q) X.xe s := by
  obtain ⟨fd, Fn, _, hb⟩ := Fa.fns k f ef
  obtain ⟨dvs, ⟨vd, rdv, rp⟩, hb⟩ := hb _ hm
  have M := Fa.make c k ek
  refine run_mkG M Fn hg hr tk I (pickV ((rv.append rz).append rdv) pt) (fun s x hk => ?_) fun x dx hx hdx hne => ?_
  · have b := hb s (.ref x :: us) ws hk (by rw [List.length_cons, l1]) l2
    dsimp only at b
    rw [List.cons_append, List.cons_append, pick_self] at b
    exact b
  · have rs1 : RS G ⟨F, S, upd H dx (.own x)⟩ := rs.lay hdx
    have t1 : TK ⟨F, S, H⟩ ⟨F, S, upd H dx (.own x)⟩ := TK.lay rs hdx
    have hx1 : upd H dx (.own x) x = none := by rw [upd_ne hne.symm]; exact hx
    have t2 : TK ⟨F, S, upd H dx (.own x)⟩ ⟨F, S.set x (.ins c []), upd (upd H dx (.own x)) x (.ins (G.ca c) dx [])⟩ := TK.new rs1 hx1
    have rs2 : RS G ⟨F, S.set x (.ins c []), upd (upd H dx (.own x)) x (.ins (G.ca c) dx [])⟩ := rs1.new hx1 ⟨dx, [], upd_same, rfl, Rps.mk0⟩
    have t := t1.trans t2
    exact SpD.of rs2 (Rps.mk (Rp.ref.mpr rfl) (Rps.pick ((Rps.tk t.toRK _ _ r |>.append (Rps.tk t.toRK _ _ r')).append (rp _)) pt)) (h x (rs.nil hx))
      (fun d F3 S3 v H3 t3 rs3 r3 h3 => ⟨by obtain ⟨rfl, _⟩ := h3; exact Rp.non.mp r3, fe _ F3 S3 _ H3 (t.trans t3) rs3 (Rp.ref.mpr rfl) h3.2⟩) (fx.tk t)
theorem q_make {P : PD} {n k c : Nat} {f : Fn} {x : Str} {p : Pos} {nm : List Str} {pt : List Nat} {dv : List D} {e : Expr} {es : List Expr} {kws : List Keyword} {ws wk : WLs} {m : Nat} (Fa : Facts X G P n) (ex : P.cls[c]? = some x) (ek : P.ini c = some k) (ef : P.fns[k]? = some f) (hg : X.A.guards = some []) (hr : Room (lev n + 1) X.A) (tk : L2N.Takes X W)
    (gl : Gl X x) (hd : (x == ("__debug__" : Str)) = false) (hm : (m + 1, nm, 0 :: pt.map (· + 1), dv) ∈ f.kw) (hn : kws.map (·.arg) = nm.map some) (ha : PA X (e :: es) (LA G W ws)) (hs : noStar e = true) (hs2 : es.all noStar = true) (hkw : PK X kws (LA G W wk)) :
    PE X (.Call (.Name x p) (e :: es) kws pos) (LE G W (fun fr S Q E => ws fr S (fun ds S1 => wk fr S1 (fun zs S2 => (ds.length = m ∧ zs.length = nm.length) ∧ ∀ p, S2 p = none → wpCall P n k (.ref p :: pick pt (ds ++ zs ++ dv)) none (S2.set p (.ins c [])) (fun r S3 => r = .non ∧ Q (.ref p) S3) E) E) E)) := by
  refine ⟨fun pins s σ H Q I h => ?_⟩
  obtain ⟨fr, F, S, Qd, Ed, rf, rs, hw, fe, fx⟩ := h
  have C := Fa.cls c x ex
  refine wpAny_Call_Name_kw (ld_glob I gl C.gl ?_ hd)
  refine cw_run (K := fun ds zs S2 => (ds.length = m ∧ zs.length = nm.length) ∧ ∀ p, S2 p = none → wpCall P n k (.ref p :: pick pt (ds ++ zs ++ dv)) none (S2.set p (.ins c [])) (fun r S3 => r = .non ∧ Qd (.ref p) S3) Ed) C.kp ha hs hs2 hkw hn I rf rs hw fx fun s2 H2 us wz vs zs F2 S2 ds es' I2 rv rz t rs2 r1 r2 h2 => ?_
  exact run_C Fa ek ef hg hr tk hm I2 rv rz (by show us.length = m; rw [← rv.length, ← r1.len, h2.1.1]) (by rw [← rz.length, ← r2.len, h2.1.2]) rs2 r1 r2 h2.2 (fe.tk t) (fx.tk t)
theorem q_make0 {P : PD} {n k c : Nat} {f : Fn} {x : Str} {p : Pos} {nm : List Str} {pt : List Nat} {dv : List D} {kws : List Keyword} {wk : WLs} (Fa : Facts X G P n) (ex : P.cls[c]? = some x) (ek : P.ini c = some k) (ef : P.fns[k]? = some f) (hg : X.A.guards = some []) (hr : Room (lev n + 1) X.A) (tk : L2N.Takes X W)
    (gl : Gl X x) (hd : (x == ("__debug__" : Str)) = false) (hm : (1, nm, 0 :: pt.map (· + 1), dv) ∈ f.kw) (hn : kws.map (·.arg) = nm.map some) (hkw : PK X kws (LA G W wk)) :
    PE X (.Call (.Name x p) [] kws pos) (LE G W (fun fr S Q E => wk fr S (fun zs S2 => (([] : List D).length = 0 ∧ zs.length = nm.length) ∧ ∀ p, S2 p = none → wpCall P n k (.ref p :: pick pt ([] ++ zs ++ dv)) none (S2.set p (.ins c [])) (fun r S3 => r = .non ∧ Q (.ref p) S3) E) E)) := by
  refine ⟨fun pins s σ H Q I h => ?_⟩
  obtain ⟨fr, F, S, Qd, Ed, rf, rs, hw, fe, fx⟩ := h
  have C := Fa.cls c x ex
  refine wpAny_Call_Name_kw (ld_glob I gl C.gl ?_ hd)
  refine cw_run0 (K := fun zs S2 => (([] : List D).length = 0 ∧ zs.length = nm.length) ∧ ∀ p, S2 p = none → wpCall P n k (.ref p :: pick pt ([] ++ zs ++ dv)) none (S2.set p (.ins c [])) (fun r S3 => r = .non ∧ Qd (.ref p) S3) Ed) C.kp hkw hn I rf rs hw fx fun s2 H2 wz zs F2 S2 es' I2 rz t rs2 r2 h2 => ?_
  exact run_C (m := 0) Fa ek ef hg hr tk hm I2 .nil rz rfl (by rw [← rz.length, ← r2.len, h2.1.2]) rs2 Rps.mk0 r2 h2.2 (fe.tk t) (fx.tk t)

theorem lookup_rps {m : Wd} {x : Str} : ∀ {fs : List (Str × D)} {vs : List (Str × V)}, vs.map (·.1) = fs.map (·.1) → Rps G m (fs.map (·.2)) (vs.map (·.2)) → ∀ {d : D}, fs.lookup x = some d → ∃ v, vs.lookup x = some v ∧ Rp G m d v
  | [], _, _, _, d, e => by cases e
  | _ :: _, [], e, _, _, _ => by simp at e
  | (f, d') :: fs, (g, v') :: vs, e, r, d, h => by
    simp only [List.map_cons, List.cons.injEq] at e
    obtain ⟨w, t, e3, r1, r2⟩ := Rps.cons.mp r
    simp only [List.map_cons, List.cons.injEq] at e3
    rw [List.lookup_cons] at h ⊢
    have eg : g = f := e.1
    rw [eg]
    cases hh : x == f with
    | true =>
      rw [hh] at h
      cases h
      exact ⟨v', rfl, by rw [e3.1]; exact r1⟩
    | false =>
      rw [hh] at h
      exact lookup_rps e.2 (by rw [e3.2]; exact r2) h
theorem q_fld {P : PD} {n : Nat} {o : Expr} {x : Str} {wo : WEx} (Fa : Facts X G P n) (ho : PE X o (LE G W wo)) (hb : attributeBase o x X.env (eval o X.env) = eval o X.env) :
    PE X (.Attribute o x pos) (LE G W (fun fr S Q E => wo fr S (fun a S1 => wpFld P.toPg x a S1 Q) E)) := by
  refine ⟨fun pins s σ H Q I h => (pe_fld (pos := pos) ho hb).run pins s σ H Q I ?_⟩
  obtain ⟨fr, F, S, Qd, Ed, rf, rs, hw, fe, fx⟩ := h
  refine ⟨fr, F, S, _, Ed, rf, rs, hw, fun d F1 S1 v H1 k1 rs1 r1 h1 => ?_, fx⟩
  unfold wpFld at h1
  (try dsimp only at h1)
  split at h1
  · rename_i k fs e
    obtain ⟨hx, h1⟩ := h1
    split at h1
    · rename_i y ey
      obtain ⟨ra, dx, vs, rfl, hH, hf⟩ := iv_ok rs1 r1 e
      obtain ⟨c1, c2⟩ := Fa.fld k x hx
      obtain ⟨w, hw2, rw2⟩ := lookup_rps hf.1 hf.2 ey
      exact ⟨ra, _, dx, vs, w, rfl, hH, c1, c2, hw2, fe _ F1 S1 _ H1 k1 rs1 rw2 h1⟩
    · exact h1.elim
  · exact h1.elim
theorem putF_rps {m : Wd} {x : Str} {d : D} {v : V} (r : Rp G m d v) : ∀ {fs : List (Str × D)} {vs : List (Str × V)}, vs.map (·.1) = fs.map (·.1) → Rps G m (fs.map (·.2)) (vs.map (·.2)) → (putF x v vs).map (·.1) = (putFD x d fs).map (·.1) ∧ Rps G m ((putFD x d fs).map (·.2)) ((putF x v vs).map (·.2))
  | [], [], _, _ => ⟨rfl, Rps.mk r Rps.mk0⟩
  | [], _ :: _, e, _ => by simp at e
  | _ :: _, [], e, _ => by simp at e
  | (f, d') :: fs, (g, v') :: vs, e, h => by
    simp only [List.map_cons, List.cons.injEq] at e
    obtain ⟨w, t, e3, r1, r2⟩ := Rps.cons.mp h
    simp only [List.map_cons, List.cons.injEq] at e3
    have eg : g = f := e.1
    unfold putF putFD
    rw [eg]
    by_cases hh : f = x
    · rw [if_pos hh, if_pos hh]
      simp only [List.map_cons]
      refine ⟨by rw [hh, e.2], Rps.mk r (by rw [e3.2]; exact r2)⟩
    · rw [if_neg hh, if_neg hh]
      obtain ⟨i1, i2⟩ := putF_rps r e.2 (by rw [e3.2]; exact r2)
      simp only [List.map_cons]
      exact ⟨by rw [i1], Rps.mk (by rw [e3.1]; exact r1) i2⟩

theorem q_glob {x : Str} {p : Pos} {d : D} {u : Value} {v : V} (gl : Gl X x) (hg : X.mg x = some u) (rv : RelV v u) (r : ∀ m, Rp G m d v) (hd : (x == ("__debug__" : Str)) = false) : PE X (.Name x p) (LE G W (fun _ S Q _ => Q d S)) := by
  refine ⟨fun pins s σ H Q I h => ?_⟩
  obtain ⟨fr, F, S, Qd, Ed, rf, rs, hw, fe, fx⟩ := h
  exact ld_glob I gl hg ⟨v, H, I, rv, fe d F S v H (TK.refl _) rs (r _) hw⟩ hd

theorem frz_at {pins : List (Addr × Obj)} {σ : L2.St} {H H1 : Hp} {s1 : Shared} {Q : VK} {Qd : PoE} {F F1 : Addr → Prop} {S S1 : Sto} {d : D} {v : V} {u : Value} (fe : FE G ⟨F, S, H⟩ Qd Q) (I1 : Inv X pins σ H1 s1) (ru : RelV v u) (k1 : TK ⟨F, S, H⟩ ⟨F1, S1, H1⟩) (rs1 : RS G ⟨F1, S1, H1⟩) (r1 : Rp G ⟨F1, S1, H1⟩ d v) (h1 : frzK d S1 Qd) : EP X pins σ Q u s1 := by
  unfold frzK at h1
  split at h1
  · rename_i p
    split at h1
    · rename_i o eo
      cases Rp.ref.mp r1
      obtain ⟨nf, ro⟩ := rs1.st p o eo
      have plain : (∀ H2, (∀ a, a ≠ p → H2 a = H1 a) → (∃ x, H2 p = some x) → Inv X pins σ H2 s1 → Rp G ⟨insF F1 p, S1.del p, H2⟩ (frzO o) (.ref p) → EP X pins σ Q u s1) := fun H2 h2 h3 I2 r2 =>
        ⟨.ref p, H2, I2, ru, fe _ _ _ _ _ (k1.trans (TK.frz rs1 eo h2)) (rs1.frz eo h2 h3) r2 h1⟩
      cases o with
      | lst ds =>
        obtain ⟨xs, hx, rr⟩ := ro
        have k2 := TK.frz (H' := H1) rs1 eo fun _ _ => rfl
        exact plain H1 (fun _ _ => rfl) ⟨_, hx⟩ I1 (Rp.lst.mpr ⟨p, xs, rfl, ⟨insF.same, hx⟩, Rps.tk k2.toRK _ _ rr⟩)
      | ins c fs =>
        obtain ⟨dx, xs, hx, h4, rr⟩ := ro
        have k2 := TK.frz (H' := H1) rs1 eo fun _ _ => rfl
        exact plain H1 (fun _ _ => rfl) ⟨_, hx⟩ I1 (Rp.ins.mpr ⟨p, dx, xs, rfl, insF.same, hx, h4, Rps.tk k2.toRK _ _ rr⟩)
      | dct kvs =>
        obtain ⟨xs, hx, h4, h5, rr⟩ := ro
        obtain ⟨od, I2⟩ := I1.lock hx trivial
        have k2 := TK.frz (H' := upd H1 p (.frz od (.dK xs))) rs1 eo fun a ha => upd_ne ha
        exact plain _ (fun a ha => upd_ne ha) ⟨_, upd_same⟩ I2 (Rp.dct.mpr ⟨p, od, xs, rfl, insF.same, upd_same, h4, h5, Rps.tk k2.toRK _ _ rr⟩)
      | dc2 kvs =>
        obtain ⟨xs, hx, h4, h5, rr⟩ := ro
        obtain ⟨od, I2⟩ := I1.lock hx trivial
        have k2 := TK.frz (H' := upd H1 p (.frz od (.dT xs))) rs1 eo fun a ha => upd_ne ha
        exact plain _ (fun a ha => upd_ne ha) ⟨_, upd_same⟩ I2 (Rp.dc2.mpr ⟨p, od, xs, rfl, insF.same, upd_same, by rw [h4, List.map_map]; rfl, h5, Rps.tk k2.toRK _ _ rr⟩)
    · exact h1.elim
  · exact ⟨v, H1, I1, ru, fe _ F1 S1 _ H1 k1 rs1 r1 h1⟩
theorem q_frz {e : Expr} (he : PE X e (LE G W wa)) : PE X e (LE G W (fun fr S Q E => wa fr S (fun x S1 => frzK x S1 Q) E)) := by
  refine ⟨fun pins s σ H Q I h => ?_⟩
  obtain ⟨fr, F, S, Qd, Ed, rf, rs, hw, fe, fx⟩ := h
  refine thn (he.run pins s σ H (fun v H1 => ∃ d F1 S1, TK ⟨F, S, H⟩ ⟨F1, S1, H1⟩ ∧ RS G ⟨F1, S1, H1⟩ ∧ Rp G ⟨F1, S1, H1⟩ d v ∧ frzK d S1 Qd) I ⟨fr, F, S, _, Ed, rf, rs, hw, fun d F1 S1 v H1 k1 rs1 r1 h1 => ⟨d, F1, S1, k1, rs1, r1, h1⟩, fx⟩) fun u s1 hq => ?_
  obtain ⟨v, H1, I1, ru, d, F1, S1, k1, rs1, r1, h1⟩ := hq
  exact frz_at fe I1 ru k1 rs1 r1 h1
end
end L4

namespace L4
open PySem PySem.Spec PyProof.Rows L2

section
variable {X : Cx} {G : Gx} {W : WX} {P : PD} {n : Nat}
end
end L4

namespace L4
open PySem PySem.Spec PyProof.Rows L2
section
variable {X : Cx} {G : Gx} {W : WX} {a b t : Expr} {wa wb wt : WEx} {pos : Pos}

theorem q_bltn {id : String} {w : WB} {x : Str} {p : Pos} {e : Expr} {es : List Expr} {ws : WLs} (hc : CallR X (.builtin id) (LBo G w)) (hg : Gl X x) (hm : X.mg x = none) (hv : bootBuiltins x = some (.builtin id)) (ha : PA X (e :: es) (LA G W ws)) (hs : noStar e = true) (hs2 : es.all noStar = true)
    (hn : x ≠ "__name__") (hd : (x == ("__debug__" : Str)) = false) : PE X (.Call (.Name x p) (e :: es) [] pos) (LE G W (fun fr S Q E => ws fr S (fun ds S1 => w ds S1 Q) E)) := by
  refine ⟨fun pins s σ H Q I h => (pe_callB (pos := pos) (p := p) hc hg hm hv ha hn hd (star_cons hs) (star_any hs2)).run pins s σ H Q I ?_⟩
  obtain ⟨fr, F, S, Qd, Ed, rf, rs, hw, fe, fx⟩ := h
  exact ⟨fr, F, S, _, Ed, rf, rs, hw, fun ds F1 S1 vs H1 k1 rs1 r1 h1 => ⟨ds, F1, S1, Qd, rs1, r1, h1, fe.tk k1⟩, fx⟩
theorem q_bltt {id : String} {w : WB} {x : Str} {p : Pos} {e : Expr} {es : List Expr} {ws : WLs} (hc : CallR X (.type id) (LBo G w)) (hg : Gl X x) (hm : X.mg x = none) (hv : bootBuiltins x = some (.type id)) (ha : PA X (e :: es) (LA G W ws)) (hs : noStar e = true) (hs2 : es.all noStar = true)
    (hn : x ≠ "__name__") (hd : (x == ("__debug__" : Str)) = false) : PE X (.Call (.Name x p) (e :: es) [] pos) (LE G W (fun fr S Q E => ws fr S (fun ds S1 => w ds S1 Q) E)) := by
  refine ⟨fun pins s σ H Q I h => (pe_callTy (pos := pos) (p := p) hc hg hm hv ha hn hd (star_cons hs) (star_any hs2)).run pins s σ H Q I ?_⟩
  obtain ⟨fr, F, S, Qd, Ed, rf, rs, hw, fe, fx⟩ := h
  exact ⟨fr, F, S, _, Ed, rf, rs, hw, fun ds F1 S1 vs H1 k1 rs1 r1 h1 => ⟨ds, F1, S1, Qd, rs1, r1, h1, fe.tk k1⟩, fx⟩

theorem q_fmt {e : Expr} {p : Pos} (h : PE X e (LE G W wa)) : PE X (.FormattedValue e (-1) none p) (LE G W (fun fr S Q E => wa fr S (fun x S1 => match x with
    | .str y => Line y.length ∧ Q (.str y) S1
    | .int i => i.natAbs < 2 ^ 1900 ∧ Q (.str (toString i)) S1
    | _ => False) E)) := by
  refine ⟨fun pins s σ H Q I hh => (pe_fmt (pos := p) h).run pins s σ H Q I ?_⟩
  obtain ⟨fr, F, S, Qd, Ed, rf, rs, hw, fe, fx⟩ := hh
  refine ⟨fr, F, S, _, Ed, rf, rs, hw, fun d F1 S1 v H1 k1 rs1 r1 h1 => ?_, fx⟩
  (try dsimp only at h1)
  split at h1
  · obtain ⟨rfl, ok⟩ := Rp.str.mp r1
    exact .inl ⟨_, rfl, line_ok h1.1, fe _ F1 S1 _ H1 k1 rs1 (Rp.str.mpr ⟨rfl, ok⟩) h1.2⟩
  · cases Rp.int.mp r1
    exact .inr ⟨_, rfl, small_log h1.1, fe _ F1 S1 _ H1 k1 rs1 (Rp.str.mpr ⟨rfl, sok_int _⟩) h1.2⟩
  · exact h1.elim

noncomputable def LJ (G : Gx) (W : WX) (w : Str → Fr → Sto → (Str → Sto → Prop) → PoX → Prop) (ts : List TE) : Prop := ∀ (acc : Str) (σ : L2.St) (H : Hp) (Q : Str → Hp → Prop),
  (∃ fr F S Qd Ed, RF G ⟨F, S, H⟩ fr σ ∧ RS G ⟨F, S, H⟩ ∧ sok acc ∧ w acc fr S Qd Ed ∧ (∀ out F' S' H', TK ⟨F, S, H⟩ ⟨F', S', H'⟩ → RS G ⟨F', S', H'⟩ → sok out → Qd out S' → Q out H') ∧ FX G ⟨F, S, H⟩ Ed fun c d H' => W c d σ H') → tJs ts acc σ H Q
theorem j_nil : LJ G W (fun acc _ S Q _ => Q acc S) [] := by
  intro acc σ H Q h
  obtain ⟨fr, F, S, Qd, Ed, rf, rs, ok, hw, fe, fx⟩ := h
  exact fe acc F S H (TK.refl _) rs ok hw

theorem j_str {x : Str} (hx : sok x) {ts : List TE} {w : Str → Fr → Sto → (Str → Sto → Prop) → PoX → Prop} (hr : LJ G W w ts) : LJ G W (fun acc fr S Q E => Line x.length ∧ Line (acc.length + x.length) ∧ w (acc ++ x) fr S Q E) (tC (.str x) :: ts) := by
  intro acc σ H Q h
  obtain ⟨fr, F, S, Qd, Ed, rf, rs, ok, hw, fe, fx⟩ := h
  exact ⟨x, rfl, by rw [Str.length_append]; exact line_ok hw.2.1, hr (acc ++ x) σ H Q ⟨fr, F, S, Qd, Ed, rf, rs, sok_append ok hx, hw.2.2, fe, fx⟩⟩
theorem j_val {ts : List TE} {we : WEx} {w : Str → Fr → Sto → (Str → Sto → Prop) → PoX → Prop} (hr : LJ G W w ts) : LJ G W (fun acc fr S Q E => we fr S (fun x S1 => match x with
    | .str y => Line y.length ∧ Line (acc.length + y.length) ∧ w (acc ++ y) fr S1 Q E
    | .int i => i.natAbs < 2 ^ 1900 ∧ Line (acc.length + (toString i : Str).length) ∧ w (acc ++ (toString i : Str)) fr S1 Q E
    | _ => False) E) (LE G W (fun fr S Q E => we fr S (fun x S1 => match x with
    | .str y => Line y.length ∧ Q (.str y) S1
    | .int i => i.natAbs < 2 ^ 1900 ∧ Q (.str (toString i)) S1
    | _ => False) E) :: ts) := by
  intro acc σ H Q h
  obtain ⟨fr, F, S, Qd, Ed, rf, rs, ok, hw, fe, fx⟩ := h
  refine ⟨fr, F, S, (fun d S1 => match d with
    | .str y => Line (acc.length + y.length) ∧ w (acc ++ y) fr S1 Qd Ed
    | _ => False), Ed, rf, rs, ?_, fun d F1 S1 v H1 k1 rs1 r1 h1 => ?_, fx⟩
  · exact hw
  · (try dsimp only at h1)
    split at h1
    · obtain ⟨rfl, oy⟩ := Rp.str.mp r1
      exact ⟨_, rfl, by rw [Str.length_append]; exact line_ok h1.1, hr _ σ H1 Q ⟨fr, F1, S1, Qd, Ed, rf.tk k1.toRK, rs1, sok_append ok oy, h1.2, fun out F' S' H' k' => fe out F' S' H' (k1.trans k'), fx.tk k1⟩⟩
    · exact h1.elim
end
end L4

namespace L4
open PySem PySem.Spec PyProof.Rows L2

mutual
noncomputable def tgT (K : PySem.W.Frag) : Tg → TG
  | .nm i => gName i
  | .tp ts => gTup K ts.len (tgTs K ts)
noncomputable def tgTs (K : PySem.W.Frag) : Tgs → TGs
  | .nil => gNil
  | .cons t ts => gCons (tgT K t) (tgTs K ts)
end
mutual
noncomputable def slotG : Tg → List Nat
  | .nm i => [i]
  | .tp ts => slotGs ts
noncomputable def slotGs : Tgs → List Nat
  | .nil => []
  | .cons t ts => slotG t ++ slotGs ts
end
theorem wipe_get : ∀ (vs : List Nat) (σ : L2.St) (j : Nat), (L2.wipe σ vs)[j]? = if j ∈ vs then (if j < σ.length then some none else none) else σ[j]?
  | [], σ, j => by simp [L2.wipe]
  | v :: vs, σ, j => by
    unfold L2.wipe
    by_cases hj : v = j
    · subst hj
      rw [if_pos (by simp)]
      by_cases hl : v < σ.length
      · rw [List.getElem?_set_self (by rw [wipe_length]; exact hl), if_pos hl]
      · rw [List.getElem?_eq_none (by simp [wipe_length]; omega), if_neg hl]
    · rw [List.getElem?_set_ne hj, wipe_get vs σ j]
      by_cases hm : j ∈ vs
      · rw [if_pos hm, if_pos (List.mem_cons_of_mem v hm)]
      · rw [if_neg hm, if_neg (by simp only [List.mem_cons, not_or]; exact ⟨fun e => hj e.symm, hm⟩)]
theorem wipe_set {vs : List Nat} {σ : L2.St} {i : Nat} {y : Option V} (h : i ∈ vs) : L2.wipe (σ.set i y) vs = L2.wipe σ vs := by
  apply List.ext_getElem?
  intro j
  rw [wipe_get, wipe_get, List.length_set]
  by_cases hj : j ∈ vs
  · rw [if_pos hj, if_pos hj]
  · rw [if_neg hj, if_neg hj, List.getElem?_set_ne (fun e => hj (by rw [← e]; exact h))]
theorem wipe_wipe {vs : List Nat} {σ : L2.St} : L2.wipe (L2.wipe σ vs) vs = L2.wipe σ vs := by
  apply List.ext_getElem?
  intro j
  rw [wipe_get, wipe_get vs σ j, wipe_length]
  by_cases hj : j ∈ vs
  · rw [if_pos hj, if_pos hj]
  · rw [if_neg hj, if_neg hj]
mutual
theorem tg_ok {G : Gx} {m : Wd} {H : Hp} (hH : m.H = H) : ∀ (tg : Tg) (d : D) (x : V) (fr fr2 : Fr) (σ : L2.St) (Q : L2.St → Hp → Prop), Rp G m d x → bindG tg d fr = some fr2 → RF G m fr σ → (∀ i ∈ slotG tg, G.fre i) →
    (∀ σ2, RF G m fr2 σ2 → (∀ vs, (∀ i ∈ slotG tg, i ∈ vs) → L2.wipe σ2 vs = L2.wipe σ vs) → Q σ2 H) → tgT G.K tg x σ H Q
  | .nm i, d, x, fr, fr2, σ, Q, r, e, rf, hx, h => by
    unfold bindG at e
    cases e
    exact h _ (rf.set i (hx i (by simp [slotG])) r) fun vs hv => wipe_set (hv i (by simp [slotG]))
  | .tp ts, d, x, fr, fr2, σ, Q, r, e, rf, hx, h => by
    unfold bindG at e
    cases d with
    | tup ds =>
      obtain ⟨a, xs, rfl, hq, _, rr⟩ := Rp.tup.mp r
      refine ⟨a, xs, rfl, by have := hq.sq; rw [hH] at this; exact this, ?_, tgs_ok hH ts ds xs fr fr2 σ Q rr e rf (fun i hi => hx i (by unfold slotG; exact hi)) fun σ2 r2 h2 => h σ2 r2 fun vs hv => h2 vs (by unfold slotG at hv; exact hv)⟩
      rw [← rr.len]
      exact tgs_len ts ds fr fr2 e
    | _ => cases e
theorem tgs_len : ∀ (ts : Tgs) (ds : List D) (fr fr2 : Fr), bindGs ts ds fr = some fr2 → ds.length = ts.len
  | .nil, ds, fr, fr2, e => by
    unfold bindGs at e
    cases ds with
    | nil => rfl
    | cons d ds => cases e
  | .cons t ts, ds, fr, fr2, e => by
    unfold bindGs at e
    cases ds with
    | nil => cases e
    | cons d ds =>
      dsimp only at e
      cases e1 : bindG t d fr with
      | none => rw [e1] at e; cases e
      | some fr' =>
        rw [e1] at e
        have := tgs_len ts ds fr' fr2 e
        simp only [List.length_cons, Tgs.len, this]
theorem tgs_ok {G : Gx} {m : Wd} {H : Hp} (hH : m.H = H) : ∀ (ts : Tgs) (ds : List D) (xs : List V) (fr fr2 : Fr) (σ : L2.St) (Q : L2.St → Hp → Prop), Rps G m ds xs → bindGs ts ds fr = some fr2 → RF G m fr σ → (∀ i ∈ slotGs ts, G.fre i) →
    (∀ σ2, RF G m fr2 σ2 → (∀ vs, (∀ i ∈ slotGs ts, i ∈ vs) → L2.wipe σ2 vs = L2.wipe σ vs) → Q σ2 H) → tgTs G.K ts xs σ H Q
  | .nil, ds, xs, fr, fr2, σ, Q, r, e, rf, hx, h => by
    unfold bindGs at e
    cases ds with
    | nil =>
      cases e
      exact ⟨Rps.nil.mp r, h σ rf fun _ _ => rfl⟩
    | cons d ds => cases e
  | .cons t ts, ds, xs, fr, fr2, σ, Q, r, e, rf, hx, h => by
    unfold bindGs at e
    cases ds with
    | nil => cases e
    | cons d ds =>
      dsimp only at e
      obtain ⟨v, rr, rfl, r1, r2⟩ := Rps.cons.mp r
      cases e1 : bindG t d fr with
      | none => rw [e1] at e; cases e
      | some fr' =>
        rw [e1] at e
        refine ⟨v, rr, rfl, tg_ok hH t d v fr fr' σ _ r1 e1 rf (fun i hi => hx i (by simp [slotGs, hi])) fun σ1 rf1 w1 => ?_⟩
        refine tgs_ok hH ts ds rr fr' fr2 σ1 Q r2 e rf1 (fun i hi => hx i (by simp [slotGs, hi])) fun σ2 rf2 w2 => h σ2 rf2 fun vs hv => ?_
        rw [w2 vs fun i hi => hv i (by simp [slotGs, hi]), w1 vs fun i hi => hv i (by simp [slotGs, hi])]
end
structure WkR (G : Gx) (m : Wd) (w : Wk) (J : It) : Prop where
  bk : w.bk = id
  stop : ∀ i F S H, TK m ⟨F, S, H⟩ → RS G ⟨F, S, H⟩ → w.g S → w.ds.length ≤ i → J.stop i H
  go : ∀ i d F S H, TK m ⟨F, S, H⟩ → RS G ⟨F, S, H⟩ → w.g S → w.ds[i]? = some d → J.go i H ∧ ∀ x H', J.yld i H x H' → TK ⟨F, S, H⟩ ⟨F, S, H'⟩ ∧ RS G ⟨F, S, H'⟩ ∧ Rp G ⟨F, S, H'⟩ d x
noncomputable abbrev WIt := Fr → Sto → (Wk → Sto → Prop) → PoX → Prop
noncomputable def LI (G : Gx) (W : WX) (wi : WIt) : TI := fun σ H R => ∃ fr F S Rd Ed, RF G ⟨F, S, H⟩ fr σ ∧ RS G ⟨F, S, H⟩ ∧ wi fr S Rd Ed ∧ (∀ w F' S' J H', TK ⟨F, S, H⟩ ⟨F', S', H'⟩ → RS G ⟨F', S', H'⟩ → WkR G ⟨F', S', H'⟩ w J → Rd w S' → R J H') ∧ FX G ⟨F, S, H⟩ Ed fun c d H' => W c d σ H'

structure LvL (G : Gx) (m : Wd) (w : Wk) (q : Addr) : Prop where
  bk : w.bk = id
  at_ : ∀ F S H, TK m ⟨F, S, H⟩ → RS G ⟨F, S, H⟩ → w.g S → ∃ xs, SqL G.K H q xs ∧ Rps G ⟨F, S, H⟩ w.ds xs
structure LvT (G : Gx) (m : Wd) (w : Wk) (q : Addr) : Prop where
  bk : w.bk = id
  at_ : ∀ F S H, TK m ⟨F, S, H⟩ → RS G ⟨F, S, H⟩ → w.g S → ∃ xs, SqT G.K H q xs ∧ Rps G ⟨F, S, H⟩ w.ds xs
section
variable {G : Gx} {m : Wd} {F : Addr → Prop} {S : Sto} {H : Hp}
theorem LvL.tk {m' : Wd} {w : Wk} {q : Addr} (k : TK m m') (h : LvL G m w q) : LvL G m' w q := ⟨h.bk, fun F S H k' => h.at_ F S H (k.trans k')⟩
theorem LvT.tk {m' : Wd} {w : Wk} {q : Addr} (k : TK m m') (h : LvT G m w q) : LvT G m' w q := ⟨h.bk, fun F S H k' => h.at_ F S H (k.trans k')⟩
theorem wkSeq_ok {d : D} {v : V} {w : Wk} (rs : RS G ⟨F, S, H⟩) (r : Rp G ⟨F, S, H⟩ d v) (e : wkSeq S d = some w) : w.g S ∧ ∃ q, v = .ref q ∧ (LvL G ⟨F, S, H⟩ w q ∨ LvT G ⟨F, S, H⟩ w q) := by
  unfold wkSeq at e
  split at e
  · cases e
    obtain ⟨q, xs, rfl, hq, _, rr⟩ := Rp.tup.mp r
    exact ⟨trivial, q, rfl, .inr ⟨rfl, fun F' S' H' k _ _ => ⟨xs, (k.toRK.t hq).sq, Rps.tk k.toRK _ _ rr⟩⟩⟩
  · cases e
    obtain ⟨q, xs, rfl, hq, rr⟩ := Rp.lst.mp r
    have hl : LsV G ⟨F, S, H⟩ q xs := .inl ⟨hq.1, .inl hq.2⟩
    exact ⟨trivial, q, rfl, .inl ⟨rfl, fun F' S' H' k _ _ => ⟨xs, (k.toRK.l hl).sq, Rps.tk k.toRK _ _ rr⟩⟩⟩
  · cases e
    obtain ⟨q, xs, rfl, hl, rr⟩ := Rp.scr.mp r
    exact ⟨trivial, q, rfl, .inl ⟨rfl, fun F' S' H' k _ _ => ⟨xs, (k.toRK.l hl).sq, Rps.tk k.toRK _ _ rr⟩⟩⟩
  · split at e
    · rename_i p _ ds e0
      cases e
      cases Rp.ref.mp r
      refine ⟨e0, p, rfl, .inl ⟨rfl, fun F' S' H' k rs' g => ?_⟩⟩
      obtain ⟨_, vs, h1, h2⟩ := rs'.st _ _ g
      exact ⟨vs, SqL.of h1, h2⟩
    · cases e
  · cases e
theorem LvL.it {w : Wk} {q : Addr} (h : LvL G m w q) : WkR G m w (Itl G.K q) := by
  refine ⟨h.bk, fun i F S H k rs g hi => ?_, fun i d F S H k rs g e => ?_⟩
  · obtain ⟨xs, hq, r⟩ := h.at_ F S H k rs g
    exact ⟨xs, hq, by rw [← r.len]; exact hi⟩
  · obtain ⟨xs, hq, r⟩ := h.at_ F S H k rs g
    obtain ⟨v, h1, h2⟩ := r.get e
    refine ⟨⟨xs, v, hq, h1⟩, fun x H' y => ?_⟩
    obtain ⟨rfl, y⟩ := y
    have e2 := y xs hq
    rw [h1] at e2; cases e2
    exact ⟨TK.refl _, rs, h2⟩
theorem LvT.it {w : Wk} {q : Addr} (h : LvT G m w q) : WkR G m w (Itt G.K q) := by
  refine ⟨h.bk, fun i F S H k rs g hi => ?_, fun i d F S H k rs g e => ?_⟩
  · obtain ⟨xs, hq, r⟩ := h.at_ F S H k rs g
    exact ⟨xs, hq, by rw [← r.len]; exact hi⟩
  · obtain ⟨xs, hq, r⟩ := h.at_ F S H k rs g
    obtain ⟨v, h1, h2⟩ := r.get e
    refine ⟨⟨xs, v, hq, h1⟩, fun x H' y => ?_⟩
    obtain ⟨rfl, y⟩ := y
    have e2 := y xs hq
    rw [h1] at e2; cases e2
    exact ⟨TK.refl _, rs, h2⟩

theorem lay_tup {T : Addr} {ds : List D} {xs : List V} (rs : RS G ⟨F, S, H⟩) (hT : H T = none) (r : Rps G ⟨F, S, H⟩ ds xs) : TK ⟨F, S, H⟩ ⟨F, S, upd H T (.tup xs)⟩ ∧ RS G ⟨F, S, upd H T (.tup xs)⟩ ∧ Rp G ⟨F, S, upd H T (.tup xs)⟩ (.tup ds) (.ref T) := by
  have k := TK.lay (u := .tup xs) rs hT
  exact ⟨k, rs.lay hT, Rp.tup_new upd_same (Rps.tk k.toRK _ _ r)⟩
theorem enmD_len : ∀ (n : Nat) (xs : List D), (enmD n xs).length = xs.length
  | _, [] => rfl
  | n, x :: xs => by rw [enmD, List.length_cons, List.length_cons, enmD_len (n + 1) xs]
theorem enmD_get : ∀ (n : Nat) (xs : List D) (i : Nat), (enmD n xs)[i]? = xs[i]?.map fun x => .tup [.int ((n + i : Nat) : Int), x]
  | _, [], i => by simp [enmD]
  | n, x :: xs, 0 => by simp [enmD]
  | n, x :: xs, i + 1 => by
    rw [enmD, List.getElem?_cons_succ, List.getElem?_cons_succ, enmD_get (n + 1) xs i, show n + 1 + i = n + (i + 1) by omega]
theorem LvL.enm {w : Wk} {q : Addr} (h : LvL G m w q) : WkR G m (w.map (enmD 0)) (Ite G.K q) := by
  refine ⟨h.bk, fun i F S H k rs g hi => ?_, fun i d F S H k rs g e => ?_⟩
  · obtain ⟨xs, hq, r⟩ := h.at_ F S H k rs g
    have hi : (enmD 0 w.ds).length ≤ i := hi
    rw [enmD_len] at hi
    exact ⟨xs, hq, by rw [← r.len]; exact hi⟩
  · obtain ⟨xs, hq, r⟩ := h.at_ F S H k rs g
    have e : (enmD 0 w.ds)[i]? = some d := e
    rw [enmD_get, Nat.zero_add] at e
    cases e0 : w.ds[i]? with
    | none => rw [e0] at e; cases e
    | some d0 =>
      rw [e0] at e
      cases e
      obtain ⟨v, h1, h2⟩ := r.get e0
      refine ⟨⟨xs, v, hq, h1⟩, fun x H' y => ?_⟩
      obtain ⟨T, x0, rfl, hT, rfl, y⟩ := y
      have e2 := y xs hq
      rw [h1] at e2; cases e2
      exact lay_tup rs hT (Rps.mk (Rp.int.mpr rfl) (Rps.mk h2 Rps.mk0))
theorem zipD_get : ∀ (xs ys : List D) (i : Nat), (zipD xs ys)[i]? = (match xs[i]?, ys[i]? with
    | some x, some y => some (.tup [x, y])
    | _, _ => none)
  | [], ys, i => by simp [zipD]
  | x :: xs, [], i => by simp [zipD]
  | x :: xs, y :: ys, 0 => by simp [zipD]
  | x :: xs, y :: ys, i + 1 => by
    rw [zipD, List.getElem?_cons_succ, List.getElem?_cons_succ, List.getElem?_cons_succ, zipD_get xs ys i]
theorem zipD_len : ∀ (xs ys : List D) , (zipD xs ys).length = min xs.length ys.length
  | [], ys => by simp [zipD]
  | x :: xs, [] => by simp [zipD]
  | x :: xs, y :: ys => by rw [zipD, List.length_cons, List.length_cons, List.length_cons, zipD_len xs ys]; omega
theorem LvL.zip {w v : Wk} {q q' : Addr} (h : LvL G m w q) (h' : LvL G m v q') : WkR G m (w.and v zipD) (Itz G.K q q') := by
  refine ⟨rfl, fun i F S H k rs g hi => ?_, fun i d F S H k rs g e => ?_⟩
  · obtain ⟨xs, hq, r⟩ := h.at_ F S H k rs g.1
    obtain ⟨ys, hq', r'⟩ := h'.at_ F S H k rs g.2
    have hi : (zipD w.ds v.ds).length ≤ i := hi
    rw [zipD_len] at hi
    exact ⟨xs, ys, hq, hq', by rw [← r.len, ← r'.len]; omega⟩
  · obtain ⟨xs, hq, r⟩ := h.at_ F S H k rs g.1
    obtain ⟨ys, hq', r'⟩ := h'.at_ F S H k rs g.2
    have e : (zipD w.ds v.ds)[i]? = some d := e
    rw [zipD_get] at e
    split at e
    · rename_i x0 y0 ex ey
      cases e
      obtain ⟨v1, h1, h2⟩ := r.get ex
      obtain ⟨v2, h3, h4⟩ := r'.get ey
      refine ⟨⟨xs, ys, v1, v2, hq, hq', h1, h3⟩, fun x H' y => ?_⟩
      obtain ⟨T, z1, z2, rfl, hT, rfl, y1, y2⟩ := y
      have e2 := y1 xs hq
      rw [h1] at e2; cases e2
      have e2 := y2 ys hq'
      rw [h3] at e2; cases e2
      exact lay_tup rs hT (Rps.mk h2 (Rps.mk h4 Rps.mk0))
    · cases e
theorem LvT.zip {w v : Wk} {q q' : Addr} (h : LvT G m w q) (h' : LvT G m v q') : WkR G m (w.and v zipD) (RZ.ItzT G.K q q') := by
  refine ⟨rfl, fun i F S H k rs g hi => ?_, fun i d F S H k rs g e => ?_⟩
  · obtain ⟨xs, hq, r⟩ := h.at_ F S H k rs g.1
    obtain ⟨ys, hq', r'⟩ := h'.at_ F S H k rs g.2
    have hi : (zipD w.ds v.ds).length ≤ i := hi
    rw [zipD_len] at hi
    exact ⟨xs, ys, hq, hq', by rw [← r.len, ← r'.len]; omega⟩
  · obtain ⟨xs, hq, r⟩ := h.at_ F S H k rs g.1
    obtain ⟨ys, hq', r'⟩ := h'.at_ F S H k rs g.2
    have e : (zipD w.ds v.ds)[i]? = some d := e
    rw [zipD_get] at e
    split at e
    · rename_i x0 y0 ex ey
      cases e
      obtain ⟨v1, h1, h2⟩ := r.get ex
      obtain ⟨v2, h3, h4⟩ := r'.get ey
      refine ⟨⟨xs, ys, v1, v2, hq, hq', h1, h3⟩, fun x H' y => ?_⟩
      obtain ⟨T, z1, z2, rfl, hT, rfl, y1, y2⟩ := y
      have e2 := y1 xs hq
      rw [h1] at e2; cases e2
      have e2 := y2 ys hq'
      rw [h3] at e2; cases e2
      exact lay_tup rs hT (Rps.mk h2 (Rps.mk h4 Rps.mk0))
    · cases e
theorem rev_get {α : Type} {xs : List α} {i : Nat} {d : α} (e : xs.reverse[i]? = some d) : i < xs.length ∧ xs[xs.length - 1 - i]? = some d := by
  have hi : i < xs.reverse.length := by
    rcases Nat.lt_or_ge i xs.reverse.length with h | h
    · exact h
    · rw [List.getElem?_eq_none h] at e; cases e
  rw [List.length_reverse] at hi
  rw [List.getElem?_reverse hi] at e
  exact ⟨hi, e⟩
theorem LvL.rev {w : Wk} {q : Addr} (h : LvL G m w q) : WkR G m (w.map List.reverse) (Itv G.K q w.ds.length) := by
  refine ⟨h.bk, fun i F S H k rs g hi => ?_, fun i d F S H k rs g e => ?_⟩
  · have hi : w.ds.reverse.length ≤ i := hi
    rw [List.length_reverse] at hi
    exact hi
  · obtain ⟨xs, hq, r⟩ := h.at_ F S H k rs g
    obtain ⟨hi, e⟩ := rev_get e
    obtain ⟨v, h1, h2⟩ := r.get e
    refine ⟨⟨hi, xs, v, hq, h1⟩, fun x H' y => ?_⟩
    obtain ⟨rfl, y⟩ := y
    have e2 := y xs hq
    rw [h1] at e2; cases e2
    exact ⟨TK.refl _, rs, h2⟩
theorem LvT.rev {w : Wk} {q : Addr} (h : LvT G m w q) : WkR G m (w.map List.reverse) (RT.ItvT G.K q w.ds.length) := by
  refine ⟨h.bk, fun i F S H k rs g hi => ?_, fun i d F S H k rs g e => ?_⟩
  · have hi : w.ds.reverse.length ≤ i := hi
    rw [List.length_reverse] at hi
    exact hi
  · obtain ⟨xs, hq, r⟩ := h.at_ F S H k rs g
    obtain ⟨hi, e⟩ := rev_get e
    obtain ⟨v, h1, h2⟩ := r.get e
    refine ⟨⟨hi, xs, v, hq, h1⟩, fun x H' y => ?_⟩
    obtain ⟨rfl, y⟩ := y
    have e2 := y xs hq
    rw [h1] at e2; cases e2
    exact ⟨TK.refl _, rs, h2⟩

theorem rngD_get {a : Int} {n i : Nat} : (rngD a n)[i]? = if i < n then some (.int (a + i)) else none := by
  unfold rngD
  rw [List.getElem?_map]
  by_cases h : i < n
  · rw [List.getElem?_range h, if_pos h]; rfl
  · rw [List.getElem?_eq_none (by simpa using h), if_neg h]; rfl
theorem wk_rng {a : Int} {n : Nat} : WkR G m (wkV (rngD a n)) (Itr a n) := by
  refine ⟨rfl, fun i F S H k rs g hi => ?_, fun i d F S H k rs g e => ?_⟩
  · have hi : (rngD a n).length ≤ i := hi
    unfold rngD at hi
    rw [List.length_map, List.length_range] at hi
    exact hi
  · have e : (rngD a n)[i]? = some d := e
    rw [rngD_get] at e
    by_cases h : i < n
    · rw [if_pos h] at e
      cases e
      refine ⟨h, fun x H' y => ?_⟩
      obtain ⟨rfl, rfl⟩ := y
      exact ⟨TK.refl _, rs, Rp.int.mpr rfl⟩
    · rw [if_neg h] at e; cases e

theorem wk_txt {z : Str} (ok : sok z) : WkR G m (wkV (chars z)) (Its z) := by
  refine ⟨rfl, fun i F S H k rs g hi => ?_, fun i d F S H k rs g e => ?_⟩
  · have hi : (chars z).length ≤ i := hi
    unfold chars at hi
    rw [List.length_map, Array.length_toList] at hi
    exact hi
  · have e : (chars z)[i]? = some d := e
    unfold chars at e
    rw [List.getElem?_map] at e
    cases e0 : z.cps.toList[i]? with
    | none => rw [e0] at e; cases e
    | some c =>
      rw [e0] at e
      cases e
      have e1 : z.cps[i]? = some c := by rw [← Array.getElem?_toList]; exact e0
      have hi : i < z.cps.size := by
        rcases Nat.lt_or_ge i z.cps.size with h | h
        · exact h
        · rw [Array.getElem?_eq_none h] at e1; cases e1
      refine ⟨hi, fun x H' y => ?_⟩
      obtain ⟨rfl, c', e2, rfl⟩ := y
      rw [e1] at e2; cases e2
      exact ⟨TK.refl _, rs, Rp.str.mpr ⟨rfl, sok_sign ok (List.mem_of_getElem? e0)⟩⟩

theorem rp_key {k : Key} {ks : List Key} (ok : kok ks) (h : k ∈ ks) : Rp G m (dKey k) (kV k) := by
  cases k with
  | inl i => exact Rp.int.mpr rfl
  | inr x => exact Rp.str.mpr ⟨rfl, ok x h⟩

structure LvD (G : Gx) (m : Wd) (kvs : List (Key × D)) (a : Addr) (o : Obj) (vs : List (Key × V)) : Prop where
  at_ : ∀ F S H, TK m ⟨F, S, H⟩ → H a = some (.frz o (.dK vs)) ∧ Rps G ⟨F, S, H⟩ (kvs.map (·.2)) (vs.map (·.2))
  ks : vs.map (·.1) = kvs.map (·.1)
  ok : kok (kvs.map (·.1))
theorem LvD.len {kvs : List (Key × D)} {a : Addr} {o : Obj} {vs : List (Key × V)} (h : LvD G m kvs a o vs) : vs.length = kvs.length := by
  have := congrArg List.length h.ks
  simpa using this
theorem LvD.get {kvs : List (Key × D)} {a : Addr} {o : Obj} {vs : List (Key × V)} (h : LvD G m kvs a o vs) {i : Nat} {k : Key} {d : D} (e : kvs[i]? = some (k, d)) (q : TK m ⟨F, S, H⟩) : ∃ v, vs[i]? = some (k, v) ∧ Rp G ⟨F, S, H⟩ d v ∧ Rp G ⟨F, S, H⟩ (dKey k) (kV k) := by
  obtain ⟨_, r⟩ := h.at_ F S H q
  obtain ⟨v, h1, h2⟩ := r.get (i := i) (d := d) (by rw [List.getElem?_map, e]; rfl)
  rw [List.getElem?_map] at h1
  have hk : (vs.map (·.1))[i]? = some k := by rw [h.ks, List.getElem?_map, e]; rfl
  rw [List.getElem?_map] at hk
  cases ev : vs[i]? with
  | none => rw [ev] at h1; cases h1
  | some kv =>
    rw [ev] at h1 hk
    obtain ⟨k', v'⟩ := kv
    cases h1
    cases hk
    exact ⟨_, rfl, h2, rp_key h.ok (List.mem_of_getElem? (by rw [List.getElem?_map, e]; rfl))⟩
theorem LvD.keys {kvs : List (Key × D)} {a : Addr} {o : Obj} {vs : List (Key × V)} (h : LvD G m kvs a o vs) : WkR G m (wkV (walkD .keys kvs)) (Itk a o vs) := by
  refine ⟨rfl, fun i F S H k rs g hi => ⟨(h.at_ F S H k).1, ?_⟩, fun i d F S H k rs g e => ?_⟩
  · have hi : (walkD .keys kvs).length ≤ i := hi
    unfold walkD at hi
    rw [List.length_map] at hi
    rw [h.len]; exact hi
  · have e : (walkD .keys kvs)[i]? = some d := e
    unfold walkD at e
    rw [List.getElem?_map] at e
    cases e0 : kvs[i]? with
    | none => rw [e0] at e; cases e
    | some kd =>
      obtain ⟨k0, d0⟩ := kd
      rw [e0] at e
      cases e
      obtain ⟨v, h1, h2, h3⟩ := h.get e0 k
      refine ⟨⟨(h.at_ F S H k).1, by rw [h.len]; exact (List.getElem?_eq_some_iff.mp e0).1⟩, fun x H' y => ?_⟩
      obtain ⟨rfl, k1, v1, e1, ex⟩ := y
      rw [h1] at e1; cases e1
      exact ⟨TK.refl _, rs, by rw [ex]; exact h3⟩
theorem LvD.items {kvs : List (Key × D)} {a : Addr} {o : Obj} {vs : List (Key × V)} (h : LvD G m kvs a o vs) : WkR G m (wkV (walkD .items kvs)) (Iti a o vs) := by
  refine ⟨rfl, fun i F S H k rs g hi => ⟨(h.at_ F S H k).1, ?_⟩, fun i d F S H k rs g e => ?_⟩
  · have hi : (walkD .items kvs).length ≤ i := hi
    unfold walkD at hi
    rw [List.length_map] at hi
    rw [h.len]; exact hi
  · have e : (walkD .items kvs)[i]? = some d := e
    unfold walkD at e
    rw [List.getElem?_map] at e
    cases e0 : kvs[i]? with
    | none => rw [e0] at e; cases e
    | some kd =>
      obtain ⟨k0, d0⟩ := kd
      rw [e0] at e
      cases e
      obtain ⟨v, h1, h2, h3⟩ := h.get e0 k
      refine ⟨⟨(h.at_ F S H k).1, by rw [h.len]; exact (List.getElem?_eq_some_iff.mp e0).1⟩, fun x H' y => ?_⟩
      obtain ⟨T, k1, v1, e1, rfl, hT, rfl⟩ := y
      rw [h1] at e1; cases e1
      exact lay_tup rs hT (Rps.mk h3 (Rps.mk h2 Rps.mk0))
theorem zfst {α β : Type} {xs : List α} {ys : List β} (h : xs.length = ys.length) : (xs.zip ys).map (·.1) = xs := zip_fst (γ := Unit) h
theorem zsnd {α β : Type} {xs : List α} {ys : List β} (h : xs.length = ys.length) : (xs.zip ys).map (·.2) = ys := zip_snd (γ := Unit) h

end
end L4

namespace L4
open PySem PySem.Spec PyProof.Rows L2

noncomputable def IteT (K : PySem.W.Frag) (a : Addr) : It :=
  { go := fun i H => ∃ (xs : List V) (x : V), SqT K H a xs ∧ xs[i]? = some x
    yld := fun i H v H' => ∃ T x, v = .ref T ∧ H T = none ∧ H' = upd H T (.tup [.int (i : Nat), x]) ∧ ∀ xs, SqT K H a xs → xs[i]? = some x
    stop := fun i H => ∃ xs : List V, SqT K H a xs ∧ xs.length ≤ i }
theorem IsEnum.apart {h : Heap} {e it a : Addr} {j : Int} {old : Value} {items : Array Value} (he : IsEnum h e it j old) (p : h.IsTuple a items) : e ≠ a := by
  intro q
  subst q
  obtain ⟨o, ho, hc, _⟩ := p
  have he' : h.get? e = some _ := he
  rw [he'] at ho
  cases ho
  injection hc with hc
  exact absurd hc (by decide)
theorem IsTupleIter.apart {h : Heap} {it t a : Addr} {j : Nat} {items : Array Value} (hi : h.IsTupleIter it t j) (p : h.IsTuple a items) : a ≠ it := by
  intro q
  subst q
  obtain ⟨o, ho, hc, _⟩ := p
  obtain ⟨o2, ho2, hc2, _⟩ := hi
  rw [ho2] at ho
  cases ho
  rw [hc2] at hc
  injection hc with hc
  exact absurd hc (by decide)
theorem turn_enumT {P : Program} {w : World} {K : PySem.W.Frag} {elts : List Expr} {kk : Nat} {tpos : Pos} (a e it : Addr) :
    Turn P w K (.Tuple elts kk tpos) (IteT K a) [e, it] e (fun i h => (∃ old, IsEnum h e it ((i : Nat) : Int) old) ∧ h.IsTupleIter it a i ∧ e ≠ it) where
  mem := by simp
  obj := fun i h st b hb => by
    obtain ⟨⟨old, he⟩, ⟨o, ho, hc, hd⟩, _⟩ := st
    simp only [List.mem_cons, List.not_mem_nil, or_false] at hb
    rcases hb with rfl | rfl
    · exact ⟨_, he, fun v q => nomatch q⟩
    · exact ⟨o, ho, fun v q => by rw [hd] at q; cases q⟩
  keep := fun i h h' st k => by
    obtain ⟨⟨old, he⟩, hi, hne⟩ := st
    exact ⟨⟨old, k e (by simp) _ he⟩, hi.at fun o q => k it (by simp) o q, hne⟩
  item := by
    intro X hP hw hK hc i pins s σ H E I hf st hg
    subst hP hw hK
    obtain ⟨⟨old, he⟩, hit, hne⟩ := st
    obtain ⟨xs, x, hq, hx⟩ := hg
    obtain ⟨its, rv, p, hz⟩ := I.tuple hq
    obtain ⟨u, hu, ru⟩ := rv.get hx
    have p' : s.heap.IsTuple a its.toArray := p
    have hel : e < s.heap.objs.size := Heap.lt_size he
    have hil : it < s.heap.objs.size := by obtain ⟨_, q, _⟩ := hit; exact Heap.lt_size q
    have hea := IsEnum.apart he p'
    have hlt : i < its.toArray.size := by
      obtain ⟨hi, _⟩ := List.getElem?_eq_some_iff.mp hu
      simpa using hi
    refine wpAny_pyNext_enum_itemD (Draws.tuple (A := X.A.in1) (I.ok.hd hc) it a (IsTupleIter.apart hit p') its.toArray) he ⟨hit, p'⟩ hlt hne (by simp [hne, hea]) fun x2 h' tk hP ho hit' hT hsz hk => ?_
    have hx2 : u = x2 := by
      have : its[i]? = some x2 := by simpa using hP
      rw [hu] at this
      exact Option.some.inj this
    subst hx2
    refine ⟨_, rfl, wpAny_letOwnedTupleGo_enum (s := { s with heap := h', toks := tk + 1 }) ho fun h'' he' sb => ?_⟩
    have hT2 : h''.get? s.heap.objs.size = some { cls := .type "tuple", data := .seq #[.int i tk, u] } := (sb.2 _ (Nat.ne_of_gt hel)).trans hT
    have new : ObjOk X.prog X.w (upd H s.heap.objs.size (.tup [.int (i : Nat), x])) h'' s.heap.objs.size (.tup [.int (i : Nat), x]) :=
      ⟨by show 2 ≤ sizeLine; decide, [.int i tk, u], .cons ⟨_, rfl⟩ (.cons ru .nil), ⟨_, hT2, rfl, _, rfl⟩⟩
    have I1 : Inv X pins σ (upd H s.heap.objs.size (.tup [.int (i : Nat), x])) { s with heap := h'', toks := tk + 1 } :=
      I.turnedNew (ch := [e, it]) (fun b ob hb q => by
        have b1 : b ≠ e := fun z => hb (by simp [z])
        have b2 : b ≠ it := fun z => hb (by simp [z])
        exact (sb.2 b b1).trans (hk b ob b1 b2 q)) hf (Nat.le_refl _) new
    refine ⟨.ref s.heap.objs.size, _, I1, rfl, ⟨_, x, rfl, I.hok.fresh (Nat.le_refl _), rfl, fun ys hy => by rw [I.tuple_inj hy hq]; exact hx⟩, ⟨⟨u, ?_⟩, hit'.1.at fun o q => (sb.2 it (Ne.symm hne)).trans q, hne⟩, fun b hb => ?_⟩
    · rw [show ((i + 1 : Nat) : Int) = (i : Int) + 1 by omega]; exact he'
    · have hb' : b < s.heap.objs.size := by
        simp only [List.mem_cons, List.not_mem_nil, or_false] at hb
        rcases hb with rfl | rfl
        · exact hel
        · exact hil
      rw [upd_ne (Nat.ne_of_lt hb')]
      exact (hf b hb).1
  done := by
    intro X hP hw hK hc i pins s σ H E I hf st hg
    subst hP hw hK
    obtain ⟨⟨old, he⟩, hit, hne⟩ := st
    obtain ⟨xs, hq, hx⟩ := hg
    obtain ⟨its, rv, p, hz⟩ := I.tuple hq
    have p' : s.heap.IsTuple a its.toArray := p
    obtain ⟨f0, f1, f2, f3, f4, f5⟩ := hf it (by simp)
    have hl := rv.length
    unfold pyNext
    refine wpAny_bind (wpAny_attempt (wpAny_callSpecial?_slot (name := Str.ofString "__next__") (T := "enumerate") ⟨_, he, rfl⟩ F.slot_enumerate_next (wpAny_call_entry F.slot_enumerate_next ⟨_, he, rfl⟩ F.entry_enumerate_next ?_ (F.args_enumerate_next_1 _))))
    show wpAny _ _ (field (.ref e) 2 >>= _) _ _ _
    refine wpAny_bind (wpAny_field he rfl (x := .ref it) rfl (wpAny_bind ?_))
    refine wpAny_nextOf_tuple_end (I.ok.hd hc) hit p' (by simp; omega) fun h' x eb hx' => ?_
    obtain ⟨o, ho, hcl⟩ := hx'
    refine wpAny_bind (wpAny_isInstance (T := "StopIteration") (b := true) ⟨o, ho, hcl⟩ isSubtype_stop (wpAny_pure ?_))
    exact ⟨rfl, I.turned (t' := s.toks) (fun b o hb q => eb b o hb q) f0 f1 f3 f4 f5⟩
  self := fun A i s Q E st h => by
    obtain ⟨⟨_, he⟩, _⟩ := st
    exact wpAny_pyIter_enum he h
set_option maxHeartbeats 8000000 in
theorem meets_enumerate_new1B {v : Value} {o : Obj} {H : Heap → Prop} (B : Begins v o H) :
    Meets (Builtin.«enumerate.__new__» ⟨[.type "enumerate", v], []⟩) (fun _ R s => H s.heap ∧
      R (.ok (.ret (.ref (s.heap.push o).objs.size))) { s with heap := (s.heap.push o).push { cls := .type "enumerate", data := .fields #[.none, .bool false, .ref s.heap.objs.size, rawInt 0, .none, .none] } }) :=
  .of_wp fun prog w A R s h => by
    obtain ⟨hp, g, d, tk, os⟩ := s
    obtain ⟨h1, h⟩ := h
    have hsub := sub_enumerate
    have q1 : ∀ {A' : Around} {E : Value → Shared → Prop} {Q : Value → Shared → Prop}, Q (.ref hp.objs.size) ⟨hp.push o, g, d, tk, os⟩ → wpAny (model prog w) A' (pyIter v) Q E ⟨hp, g, d, tk, os⟩ := fun q => B.iter prog w _ _ _ _ h1 q
    wp_walk using q1
    refine wpAny_stack_any fun st => wpAny_pure ?_
    split
    · rename_i c _ _ _ _ _
      cases (c == Value.type "enumerate") <;>
      · wp_walk using q1
        exact ⟨_, rfl, h⟩
    · wp_walk using q1
      exact ⟨_, rfl, h⟩
theorem call_enumerateB {prog : Program} {w : World} {A : Around} {E : Value → Shared → Prop} {s : Shared} {v : Value} {o : Obj} {H : Heap → Prop} {Q : Value → Shared → Prop} (B : Begins v o H) (h1 : H s.heap)
    (h : ∀ h', IsEnum h' (s.heap.objs.size + 1) s.heap.objs.size 0 .none → h'.get? s.heap.objs.size = some o → (∀ b o, s.heap.get? b = some o → h'.get? b = some o) → Q (.ref (s.heap.objs.size + 1)) { s with heap := h' }) :
    wpAny (model prog w) A (call (.type "enumerate") [v]) Q E s := by
  refine callType_new F.called_enumerate (by decide) (F.typeCall_enumerate_1 _) (F.newCall_enumerate_1 _) (fun obj => F.args_object_init_2 obj _) F.entry_enumerate_new (meets_enumerate_new1B B) ⟨h1, ?_⟩
  have hz : (s.heap.push o).objs.size = s.heap.objs.size + 1 := Heap.size_push ..
  have he := Heap.get?_push_size (s.heap.push o) (o := { cls := .type "enumerate", data := .fields #[.none, .bool false, .ref s.heap.objs.size, rawInt 0, .none, .none] }) rfl
  rw [hz] at he
  show _ ∧ _
  rw [hz]
  exact ⟨⟨_, he, rfl⟩, h _ he (Heap.get?_push_of_some _ (Heap.get?_push_size _ B.free)) fun b o x => Heap.get?_push_of_some _ (Heap.get?_push_of_some _ x)⟩
noncomputable def iEnumT (K : PySem.W.Frag) (ta : TA) : TI := fun σ H R => ta σ H fun vs H1 => ∃ a xs, vs = [.ref a] ∧ ((SqL K H1 a xs ∧ R (Ite K a) H1) ∨ (SqT K H1 a xs ∧ R (IteT K a) H1))
theorem pi_enumT {X : Cx} {e : Expr} {ta : TA} {p pos tpos : Pos} {elts : List Expr} {kk : Nat} (hg : Gl X "enumerate") (hm : X.mg "enumerate" = none) (ha : PA X [e] ta) (hs : starEach [e] X.env = [(false, eval e X.env)] := by rfl) :
    PI X (.Tuple elts kk tpos) (.Call (.Name "enumerate" p) [e] [] pos) (iEnumT X.K ta) := by
  refine ⟨fun pins s σ H R I h => ?_⟩
  refine Call_ (ld_blt I hg hm boot_enumerate (PyProof.Rows.callWith_type1 (thn (ha.run pos pins s σ H _ I h) fun us s1 ⟨vs, H1, I1, r1, q1⟩ => ?_) hs rfl))
  obtain ⟨a, xs, rfl, q⟩ := q1
  have two : ∀ b, b ∈ [s1.heap.objs.size + 1, s1.heap.objs.size] → FpOk X pins H1 b := fun b hb => by
    have hle : s1.heap.objs.size ≤ b := by
      simp only [List.mem_cons, List.not_mem_nil, or_false] at hb
      omega
    exact I1.fpOk hle (I1.hok.fresh hle)
  cases r1 with
  | cons r rr =>
    cases rr
    cases r
    rcases q with ⟨hq, q⟩ | ⟨hq, q⟩
    · obtain ⟨its, rv, p', hz⟩ := I1.list hq
      refine call_enumerate_list p'.isList fun h' he hit hsz hk => wpAny_pyIter_enum he ?_
      have I2 : Inv X pins σ H1 { s1 with heap := h' } := I1.kept (t' := s1.toks) hk
      exact ⟨s1.heap.objs.size + 1, [s1.heap.objs.size + 1, s1.heap.objs.size], _, _, H1, rfl, I2, turn_enum a (s1.heap.objs.size + 1) s1.heap.objs.size, ⟨⟨.none, he⟩, hit, Nat.succ_ne_self _⟩, two, q⟩
    · obtain ⟨its, rv, p', hz⟩ := I1.tuple hq
      refine call_enumerateB (begins_tuple a its.toArray) (show s1.heap.IsTuple a its.toArray from p') fun h' he hit hk => wpAny_pyIter_enum he ?_
      have I2 : Inv X pins σ H1 { s1 with heap := h' } := I1.kept (t' := s1.toks) hk
      exact ⟨s1.heap.objs.size + 1, [s1.heap.objs.size + 1, s1.heap.objs.size], _, _, H1, rfl, I2, turn_enumT a (s1.heap.objs.size + 1) s1.heap.objs.size, ⟨⟨.none, he⟩, ⟨_, hit, rfl, rfl⟩, Nat.succ_ne_self _⟩, two, q⟩
theorem LvT.enm {G : Gx} {m : Wd} {w : Wk} {q : Addr} (h : LvT G m w q) : WkR G m (w.map (enmD 0)) (IteT G.K q) := by
  refine ⟨h.bk, fun i F S H k rs g hi => ?_, fun i d F S H k rs g e => ?_⟩
  · obtain ⟨xs, hq, r⟩ := h.at_ F S H k rs g
    have hi : (enmD 0 w.ds).length ≤ i := hi
    rw [enmD_len] at hi
    exact ⟨xs, hq, by rw [← r.len]; exact hi⟩
  · obtain ⟨xs, hq, r⟩ := h.at_ F S H k rs g
    have e : (enmD 0 w.ds)[i]? = some d := e
    rw [enmD_get, Nat.zero_add] at e
    cases e0 : w.ds[i]? with
    | none => rw [e0] at e; cases e
    | some d0 =>
      rw [e0] at e
      cases e
      obtain ⟨v, h1, h2⟩ := r.get e0
      refine ⟨⟨xs, v, hq, h1⟩, fun x H' y => ?_⟩
      obtain ⟨T, x0, rfl, hT, rfl, y⟩ := y
      have e2 := y xs hq
      rw [h1] at e2; cases e2
      exact lay_tup rs hT (Rps.mk (Rp.int.mpr rfl) (Rps.mk h2 Rps.mk0))
end L4

namespace L4
open PySem PySem.Spec PyProof.Rows L2

theorem IsListIter.apart {h : Heap} {it t a : Addr} {j : Nat} {items : Array Value} (hi : h.IsListIter it t j) (p : h.IsList a items) : a ≠ it := by
  intro q
  subst q
  obtain ⟨o, ho, hc, _⟩ := p
  obtain ⟨o2, ho2, hc2, _⟩ := hi
  rw [ho2] at ho
  cases ho
  rw [hc2] at hc
  injection hc with hc
  exact absurd hc (by decide)

end L4

namespace L4
open PySem PySem.Spec PyProof.Rows L2
section
variable {X : Cx} {G : Gx} {W : WX} {a b c t tg : Expr} {wa wb wc wt : WEx} {pos : Pos}
theorem qi_rng1 {p : Pos} (hg : Gl X "range") (hm : X.mg "range" = none) (ha : PE X a (LE G W wa)) (hs : noStar a = true) : PI X tg (.Call (.Name "range" p) [a] [] pos) (LI G W (fun fr S R E => wa fr S (fun x S1 => match x with
    | .int j => (-(2 ^ 62) ≤ j ∧ j < 2 ^ 62) ∧ R (wkV (rngD 0 j.toNat)) S1
    | _ => False) E)) := by
  refine ⟨fun pins s σ H R I h => (pi_range1 (pos := pos) (p := p) hg hm (pa_cons ha pa_nil (star_cons hs)) (star_cons hs)).run pins s σ H R I ?_⟩
  obtain ⟨fr, F, S, Rd, Ed, rf, rs, hw, fe, fx⟩ := h
  refine ⟨fr, F, S, _, Ed, rf, rs, hw, fun d F1 S1 v H1 k1 rs1 r1 h1 => ?_, fx⟩
  (try dsimp only at h1)
  split at h1
  · rename_i j
    cases Rp.int.mp r1
    exact ⟨j, rfl, h1.1.1, h1.1.2, fe _ F1 S1 _ H1 k1 rs1 wk_rng h1.2⟩
  · exact h1.elim
theorem qi_seq (hK : X.K = G.K) (ha : PE X a (LE G W wa)) : PI X tg a (LI G W (fun fr S R E => wa fr S (fun x S1 => match wkSeq S1 x with
    | some w => R w S1
    | none => False) E)) := by
  refine ⟨fun pins s σ H R I h => ?_⟩
  obtain ⟨fr, F, S, Rd, Ed, rf, rs, hw, fe, fx⟩ := h
  refine thn (ha.run pins s σ H (fun x H1 => ∃ q, x = V.ref q ∧ ((∃ xs, SqL X.K H1 q xs ∧ R (Itl X.K q) H1) ∨ ∃ xs, SqT X.K H1 q xs ∧ R (Itt X.K q) H1)) I ⟨fr, F, S, _, Ed, rf, rs, hw, fun d F1 S1 v H1 k1 rs1 r1 h1 => ?_, fx⟩) fun v s1 hv => ?_
  · (try dsimp only at h1)
    rw [hK]
    split at h1
    · rename_i w ew
      obtain ⟨g, q, rfl, hq⟩ := wkSeq_ok rs1 r1 ew
      refine ⟨q, rfl, ?_⟩
      rcases hq with hq | hq
      · obtain ⟨xs, h2, _⟩ := hq.at_ F1 S1 H1 (TK.refl _) rs1 g
        exact .inl ⟨xs, h2, fe _ F1 S1 _ H1 k1 rs1 hq.it h1⟩
      · obtain ⟨xs, h2, _⟩ := hq.at_ F1 S1 H1 (TK.refl _) rs1 g
        exact .inr ⟨xs, h2, fe _ F1 S1 _ H1 k1 rs1 hq.it h1⟩
    · exact h1.elim
  · obtain ⟨x, H1, I1, rv, q, rfl, hh⟩ := hv
    cases rv
    have fresh := I1.hok.fresh (a := s1.heap.objs.size) (Nat.le_refl _)
    rcases hh with ⟨xs, hq, hR⟩ | ⟨xs, hq, hR⟩
    · obtain ⟨its, rv, pl, hz⟩ := I1.list hq
      refine wpAny_pyIter_list pl.isList ⟨_, [s1.heap.objs.size], _, _, H1, rfl, I1.kept (t' := s1.toks) (fun b o e => Heap.get?_push_of_some _ e), turn_list q _, ⟨_, Heap.get?_push_size _ rfl, rfl, rfl⟩, fun b hb => ?_, hR⟩
      cases List.mem_singleton.mp hb
      exact I1.fpOk (Nat.le_refl _) fresh
    · obtain ⟨its, rv, pl, hz⟩ := I1.tuple hq
      refine wpAny_pyIter_tuple (show s1.heap.IsTuple q its.toArray from pl) ⟨_, [s1.heap.objs.size], _, _, H1, rfl, I1.kept (t' := s1.toks) (fun b o e => Heap.get?_push_of_some _ e), turn_tuple q _, ⟨_, Heap.get?_push_size _ rfl, rfl, rfl⟩, fun b hb => ?_, hR⟩
      cases List.mem_singleton.mp hb
      exact I1.fpOk (Nat.le_refl _) fresh
theorem qi_txt (ha : PE X a (LE G W wa)) : PI X tg a (LI G W (fun fr S R E => wa fr S (fun x S1 => match x with
    | .str z => Line z.length ∧ R (wkV (chars z)) S1
    | _ => False) E)) := by
  refine ⟨fun pins s σ H R I h => (pi_str ha).run pins s σ H R I ?_⟩
  obtain ⟨fr, F, S, Rd, Ed, rf, rs, hw, fe, fx⟩ := h
  refine ⟨fr, F, S, _, Ed, rf, rs, hw, fun d F1 S1 v H1 k1 rs1 r1 h1 => ?_, fx⟩
  (try dsimp only at h1)
  split at h1
  · rename_i z
    obtain ⟨rfl, ok⟩ := Rp.str.mp r1
    exact ⟨z, rfl, fe _ F1 S1 _ H1 k1 rs1 (wk_txt ok) h1.2⟩
  · exact h1.elim
theorem qi_enm {p tpos : Pos} {elts : List Expr} {kk : Nat} (hK : X.K = G.K) (hg : Gl X "enumerate") (hm : X.mg "enumerate" = none) (ha : PE X a (LE G W wa)) (hs : noStar a = true) : PI X (.Tuple elts kk tpos) (.Call (.Name "enumerate" p) [a] [] pos) (LI G W (fun fr S R E => wa fr S (fun x S1 => match wkSeq S1 x with
    | some w => R (w.map (enmD 0)) S1
    | none => False) E)) := by
  refine ⟨fun pins s σ H R I h => (pi_enumT (pos := pos) (p := p) hg hm (pa_cons ha pa_nil (star_cons hs)) (star_cons hs)).run pins s σ H R I ?_⟩
  obtain ⟨fr, F, S, Rd, Ed, rf, rs, hw, fe, fx⟩ := h
  refine ⟨fr, F, S, _, Ed, rf, rs, hw, fun d F1 S1 v H1 k1 rs1 r1 h1 => ?_, fx⟩
  (try dsimp only at h1)
  split at h1
  · rename_i w ew
    obtain ⟨g, q, rfl, hq⟩ := wkSeq_ok rs1 r1 ew
    rcases hq with hq | hq
    · obtain ⟨xs, h2, _⟩ := hq.at_ F1 S1 H1 (TK.refl _) rs1 g
      exact ⟨q, xs, rfl, .inl ⟨by rw [hK]; exact h2, by rw [hK]; exact fe _ F1 S1 _ H1 k1 rs1 hq.enm h1⟩⟩
    · obtain ⟨xs, h2, _⟩ := hq.at_ F1 S1 H1 (TK.refl _) rs1 g
      exact ⟨q, xs, rfl, .inr ⟨by rw [hK]; exact h2, by rw [hK]; exact fe _ F1 S1 _ H1 k1 rs1 hq.enm h1⟩⟩
  · exact h1.elim
theorem s_for {it : Expr} {body : List Stmt} {T : Tg} {wi : WIt} {wb : WSb} (hp : PassesOwn (model X.prog X.w) X.A X.env X.xe) (hc : X.calm = true) (hi : PI X tg it (LI G W wi)) (hg : PG X tg (tgT G.K T)) (hb : PSs X body (LS G W wb)) (hx : ∀ i ∈ slotG T, G.fre i)
    (hs : noSet it = true) : PS X (.For tg it body [] pos) (LS G W (fun fr S P => wi fr S (fun w S1 => forW T wb w.g w.ds fr S1 (P.behind w.bk)) (fun x S1 => P.xc x fr S1))) := by
  refine ⟨fun pins s σ H D I h => (ps_for (pos := pos) hp hc hi hg hb (no_fold hs)).run pins s σ H D I ?_⟩
  obtain ⟨fr, F, S, P, rf, rs, hw, fs⟩ := h
  refine ⟨fr, F, S, _, _, rf, rs, hw, fun w F1 S1 J H1 k1 rs1 wk h1 => ?_, fs.fx rf⟩
  rw [show P.behind w.bk = P by rw [wk.bk]; rfl] at h1
  refine ⟨fun i m σ H => ∃ fr F S, TK ⟨F1, S1, H1⟩ ⟨F, S, H⟩ ∧ RF G ⟨F, S, H⟩ fr σ ∧ RS G ⟨F, S, H⟩ ∧ (i ≤ w.ds.length ∧ m = w.ds.length - i) ∧ forW T wb w.g (w.ds.drop i) fr S P, ⟨_, fr, F1, S1, TK.refl _, rf.tk k1.toRK, rs1, ⟨Nat.zero_le _, rfl⟩, by rw [List.drop_zero]; exact h1⟩, ?_⟩
  rintro i m σ2 H2 ⟨fr2, F2, S2, k2, rf2, rs2, ⟨hi, hm⟩, h2⟩
  cases e : w.ds[i]? with
  | none =>
    have hl := List.getElem?_eq_none_iff.mp e
    rw [List.drop_eq_nil_of_le hl] at h2
    unfold forW at h2
    exact .inl ⟨wk.stop i F2 S2 H2 k2 rs2 h2.1 hl, fs.nx fr2 F2 S2 σ2 H2 (k1.trans k2) rf2 rs2 h2.2⟩
  | some d =>
    obtain ⟨hl, hd⟩ := List.getElem?_eq_some_iff.mp e
    rw [List.drop_eq_getElem_cons hl, hd] at h2
    unfold forW at h2
    obtain ⟨g, h2⟩ := h2
    obtain ⟨go, yl⟩ := wk.go i d F2 S2 H2 k2 rs2 g e
    cases eb : bindG T d fr2 with
    | none => rw [eb] at h2; exact h2.elim
    | some fr3 =>
      rw [eb] at h2
      dsimp only at h2
      refine .inr ⟨go, fun σ' H' => ∃ fr F S, TK ⟨F1, S1, H1⟩ ⟨F, S, H'⟩ ∧ RF G ⟨F, S, H'⟩ fr σ' ∧ RS G ⟨F, S, H'⟩ ∧ forW T wb w.g (w.ds.drop (i + 1)) fr S P, fun σ' H' q => ?_, fun x H3 y => ?_⟩
      · obtain ⟨fr', F', S', q1, q2, q3, q4⟩ := q
        exact ⟨w.ds.length - (i + 1), by omega, fr', F', S', q1, q2, q3, ⟨hl, rfl⟩, q4⟩
      · obtain ⟨k3, rs3, r3⟩ := yl x H3 y
        refine tg_ok rfl T d x fr2 fr3 σ2 _ r3 eb (rf2.tk k3.toRK) hx fun σ3 rf3 _ => ?_
        have k := (k1.trans k2).trans k3
        exact ⟨fr3, F2, S2, _, rf3, rs3, h2, ⟨fun fr F S σ H k' rf rs q => ⟨fr, F, S, (k2.trans k3).trans k', rf, rs, q⟩, fs.rt.tk k, fun fr F S σ H k' => fs.nx fr F S σ H (k.trans k'), fun fr F S σ H k' rf rs q => ⟨fr, F, S, (k2.trans k3).trans k', rf, rs, q⟩, fun x fr F S c d σ H k' => fs.xc x fr F S c d σ H (k.trans k')⟩⟩
end
end L4

namespace L4
open PySem PySem.Spec PyProof.Rows L2

section
variable {G : Gx} {F : Addr → Prop} {S : Sto} {H : Hp} {m : Wd} {q : Addr} {vs ws : List V}
theorem RK.hput (h : H q = some (.lst vs)) (nf : ¬ F q) : RK ⟨F, S, H⟩ ⟨F, S, upd H q (.lst ws)⟩ := by
  refine ⟨fun a o f e => ⟨f, ?_⟩, fun a xs e => ?_⟩
  · show upd H q _ a = _
    rw [upd_ne (fun z => by subst z; exact nf f)]; exact e
  · show upd H q _ a = _
    have e : H a = _ := e
    rw [upd_ne (fun z => by subst z; rw [h] at e; cases e)]; exact e
theorem TK.hput (k : TK m ⟨F, S, H⟩) (n : m.H q = none) : TK m ⟨F, S, upd H q (.lst ws)⟩ := by
  refine ⟨⟨fun a o f e => ?_, fun a xs e => ?_⟩, fun a o e s => ?_⟩
  · obtain ⟨f1, e1⟩ := k.fz a o f e
    exact ⟨f1, by show upd H q _ a = _; rw [upd_ne (ne_of_none e n)]; exact e1⟩
  · show upd H q _ a = _
    rw [upd_ne (ne_of_none e n)]; exact k.tp a xs e
  · obtain ⟨e1, s1, f1⟩ := k.hid a o e s
    exact ⟨by show upd H q _ a = _; rw [upd_ne (ne_of_none e n)]; exact e1, s1, f1⟩
theorem RS.hput (rs : RS G ⟨F, S, H⟩) (h : H q = some (.lst vs)) (nf : ¬ F q) (ns : S q = none) : RS G ⟨F, S, upd H q (.lst ws)⟩ := by
  have k : RK ⟨F, S, H⟩ ⟨F, S, upd H q (.lst ws)⟩ := RK.hput h nf
  refine ⟨fun a o e => ?_, fun a f => ?_⟩
  · obtain ⟨nf', r⟩ := rs.st a o e
    exact ⟨nf', r.kept k (by show upd H q _ a = _; rw [upd_ne (Sto.fresh ns e)])⟩
  · by_cases ha : a = q
    · subst ha; exact ⟨_, upd_same⟩
    · obtain ⟨o, e⟩ := rs.ft a f
      exact ⟨o, by show upd H q _ a = _; rw [upd_ne ha]; exact e⟩

theorem TK.tellS (k : TK m ⟨F, S, H⟩) (n : m.H q = none) {o : O} : TK m ⟨F, S.set q o, H⟩ :=
  ⟨⟨k.fz, k.tp⟩, fun a o e s => by
    obtain ⟨e1, s1, f1⟩ := k.hid a o e s
    exact ⟨e1, by show S.set q _ a = _; rw [Sto.ne (ne_of_none e n)]; exact s1, f1⟩⟩
theorem RS.tellS (rs : RS G ⟨F, S, H⟩) (h : H q = some (.lst vs)) (nf : ¬ F q) {ds : List D} (r : Rps G ⟨F, S, H⟩ ds vs) : RS G ⟨F, S.set q (.lst ds), H⟩ := by
  have k : RK ⟨F, S, H⟩ ⟨F, S.set q (.lst ds), H⟩ := ⟨fun _ _ f e => ⟨f, e⟩, fun _ _ e => e⟩
  refine ⟨fun a o e => ?_, rs.ft⟩
  by_cases ha : a = q
  · subst ha
    have e : S.set a _ a = some o := e
    rw [Sto.same] at e; cases e
    exact ⟨nf, vs, h, Rps.tk k _ _ r⟩
  · have e : S.set q _ a = some o := e
    rw [Sto.ne ha] at e
    obtain ⟨nf', r'⟩ := rs.st a o e
    exact ⟨nf', r'.kept k rfl⟩
theorem TK.tellF (k : TK m ⟨F, S, H⟩) (n : m.H q = none) : TK m ⟨insF F q, S, H⟩ :=
  ⟨⟨fun a o f e => by obtain ⟨f1, e1⟩ := k.fz a o f e; exact ⟨.inr f1, e1⟩, k.tp⟩, fun a o e s => by
    obtain ⟨e1, s1, f1⟩ := k.hid a o e s
    exact ⟨e1, s1, fun f => f.elim (fun z => absurd z (ne_of_none e n)) f1⟩⟩
theorem RS.tellF (rs : RS G ⟨F, S, H⟩) (h : H q = some (.lst vs)) (ns : S q = none) : RK ⟨F, S, H⟩ ⟨insF F q, S, H⟩ ∧ RS G ⟨insF F q, S, H⟩ := by
  have k : RK ⟨F, S, H⟩ ⟨insF F q, S, H⟩ := ⟨fun _ _ f e => ⟨.inr f, e⟩, fun _ _ e => e⟩
  refine ⟨k, fun a o e => ?_, fun a f => ?_⟩
  · obtain ⟨nf', r'⟩ := rs.st a o e
    exact ⟨fun f => f.elim (fun z => absurd z (Sto.fresh ns e)) nf', r'.kept k rfl⟩
  · rcases f with f | f
    · subst f; exact ⟨_, h⟩
    · exact rs.ft a f
end
section
variable {X : Cx} {G : Gx} {W : WX} {pos : Pos}
noncomputable abbrev Wno : WX := fun _ _ _ _ => False
theorem comp_red {own : List (Str × Nat)} {T : Tg} {wi : WIt} {wts we : WEx} {fz : Bool} {σ : L2.St} {H : Hp} {Q : VK} (hsl : ∀ i ∈ slotG T, i ∈ own.map (·.2)) (hx : ∀ i ∈ own.map (·.2), G.fre i) (h : LE G W (fun fr S Q E => wi fr S (fun w S1 => compW T (own.map (·.2)) wts we w.g w.ds [] fr S1 (fun acc S2 => newL fz acc (w.bk S2) Q)) E) σ H Q) : tLc (LI G W wi) (tgT G.K T) (LT G Wno wts) (LE G Wno we) (own.map (·.2)) σ H Q := by
  obtain ⟨fr, F, S, Qd, Ed, rf, rs, hw, fe, fx⟩ := h
  refine ⟨fr, F, S, _, Ed, rf, rs, hw, fun w F1 S1 J H1 k1 rs1 wk h1 => ?_, fx⟩
  intro q hq
  rw [wk.bk] at h1
  refine ⟨fun i m H' => ∃ F2 S2 acc vs, TK ⟨F1, S1, H1⟩ ⟨F2, S2, H'⟩ ∧ RS G ⟨F2, S2, H'⟩ ∧ (H' q = some (.lst vs) ∧ S2 q = none ∧ ¬ F2 q) ∧ Rps G ⟨F2, S2, H'⟩ acc vs ∧ (i ≤ w.ds.length ∧ m = w.ds.length - i) ∧ compW T (own.map (·.2)) wts we w.g (w.ds.drop i) acc fr S2 (fun acc S2 => newL fz acc (id S2) Qd),
    ⟨_, F1, S1, [], [], TK.lay rs1 hq, rs1.lay hq, ⟨upd_same, rs1.nil hq, rs1.noF hq⟩, Rps.mk0, ⟨Nat.zero_le _, rfl⟩, by rw [List.drop_zero]; exact h1⟩, ?_⟩
  rintro i m H2 ⟨F2, S2, acc, vs, k2, rs2, ⟨hD, nS, nF⟩, ra, ⟨hi, hm⟩, h2⟩
  cases e : w.ds[i]? with
  | none =>
    have hl := List.getElem?_eq_none_iff.mp e
    rw [List.drop_eq_nil_of_le hl] at h2
    unfold compW at h2
    refine .inl ⟨wk.stop i F2 S2 H2 k2 rs2 h2.1 hl, ?_⟩
    have h2 := h2.2
    unfold newL at h2
    split at h2
    · obtain ⟨kf, rsf⟩ := rs2.tellF hD nS
      exact fe _ _ _ _ _ (k1.trans (k2.tellF hq)) rsf (Rp.lst.mpr ⟨q, vs, rfl, ⟨insF.same, hD⟩, Rps.tk kf _ _ ra⟩) h2
    · exact fe _ _ _ _ _ (k1.trans (k2.tellS hq)) (rs2.tellS hD nF ra) (Rp.ref.mpr rfl) (h2 q nS)
  | some d =>
    obtain ⟨hl, hd⟩ := List.getElem?_eq_some_iff.mp e
    rw [List.drop_eq_getElem_cons hl, hd] at h2
    unfold compW at h2
    obtain ⟨g, h2⟩ := h2
    obtain ⟨go, yl⟩ := wk.go i d F2 S2 H2 k2 rs2 g e
    cases eb : bindG T d (wipeD fr (own.map (·.2))) with
    | none => rw [eb] at h2; exact h2.elim
    | some fr3 =>
      rw [eb] at h2
      dsimp only at h2
      refine .inr ⟨go, fun H' => ∃ F2 S2 acc vs, TK ⟨F1, S1, H1⟩ ⟨F2, S2, H'⟩ ∧ RS G ⟨F2, S2, H'⟩ ∧ (H' q = some (.lst vs) ∧ S2 q = none ∧ ¬ F2 q) ∧ Rps G ⟨F2, S2, H'⟩ acc vs ∧ compW T (own.map (·.2)) wts we w.g (w.ds.drop (i + 1)) acc fr S2 (fun acc S2 => newL fz acc (id S2) Qd), fun H' z => ?_, fun x H3 y => ?_⟩
      · obtain ⟨F', S', acc', vs', q1, q2, q3, q4, q5⟩ := z
        exact ⟨w.ds.length - (i + 1), by omega, F', S', acc', vs', q1, q2, q3, q4, ⟨hl, rfl⟩, q5⟩
      · obtain ⟨k3, rs3, r3⟩ := yl x H3 y
        have rfw : RF G ⟨F2, S2, H3⟩ (wipeD fr (own.map (·.2))) (L2.wipe σ (own.map (·.2))) := (rf.tk ((k1.trans k2).trans k3).toRK).wipe _ hx
        refine tg_ok rfl T d x _ fr3 _ _ r3 eb rfw (fun i hi => hx i (hsl i hi)) fun σ2 rf2 hw2 => ⟨by rw [hw2 _ hsl, wipe_wipe], ?_⟩
        refine ⟨fr3, F2, S2, _, _, rf2, rs3, h2, fun d4 F4 S4 H4 k4 rs4 h4 => ?_, fun x F S c d H' _ _ _ z => z.elim⟩
        have k34 := k3.trans k4
        obtain ⟨hD4, nS4, nF4⟩ := k34.hid q _ hD nS
        (try dsimp only at h4)
        split at h4
        · refine ⟨true, rfl, iteT ⟨fr3, F4, S4, _, _, rf2.tk k4.toRK, rs4, h4, fun d5 F5 S5 v5 H5 k5 rs5 r5 h5 => ?_, fun x F S c d H' _ _ _ z => z.elim⟩⟩
          have k35 := k34.trans k5
          obtain ⟨hD5, nS5, nF5⟩ := k35.hid q _ hD nS
          obtain ⟨hlen, h5⟩ := h5
          have ra5 := Rps.tk k35.toRK _ _ ra
          refine ⟨vs, hD5, by rw [← ra.len, sizeLine_eq]; omega, F5, S5, acc ++ [d5], vs ++ [v5], (k2.trans k35).hput hq, rs5.hput hD5 (fun f => nF (nF5 f)) nS5, ⟨upd_same, nS5, fun f => nF (nF5 f)⟩, ?_, h5⟩
          exact Rps.tk (RK.hput hD5 (fun f => nF (nF5 f))) _ _ (ra5.append (Rps.mk r5 Rps.mk0))
        · exact ⟨false, rfl, iteF ⟨F4, S4, acc, vs, k2.trans k34, rs4, ⟨hD4, nS4, fun f => nF (nF4 f)⟩, Rps.tk k34.toRK _ _ ra, h4⟩⟩
        · exact h4.elim
theorem q_comp {tg it elt : Expr} {ifs : List Expr} {scope : Scope} {own : List (Str × Nat)} {T : Tg} {wi : WIt} {wts we : WEx} {fz : Bool} (hc : X.calm = true) (hN : X.N.Nodup) (hi : PI X tg it (LI G W wi)) (ok : BlkOk X.N X.env.scope scope own)
    (hg : ∀ (s : Shared) (H : Hp) (C : Addr) (cl : List (Str × Addr)) (fp : List Addr), PG (X.blk s H scope (compEnvC scope cl C X.env) fp) tg (tgT G.K T))
    (ht : ∀ (s : Shared) (H : Hp) (C : Addr) (cl : List (Str × Addr)) (fp : List Addr), PTs (X.blk s H scope (compEnvC scope cl C X.env) fp) ifs (LT G Wno wts))
    (he : ∀ (s : Shared) (H : Hp) (C : Addr) (cl : List (Str × Addr)) (fp : List Addr), PE (X.blk s H scope (compEnvC scope cl C X.env) fp) elt (LE G Wno we))
    (hs : noSet it = true) (hsl : ∀ i ∈ slotG T, i ∈ own.map (·.2)) (hx : ∀ i ∈ own.map (·.2), G.fre i) :
    PE X (.ListComp elt [⟨tg, it, ifs, 0⟩] scope pos) (LE G W (fun fr S Q E => wi fr S (fun w S1 => compW T (own.map (·.2)) wts we w.g w.ds [] fr S1 (fun acc S2 => newL fz acc (w.bk S2) Q)) E)) :=
  ⟨fun pins s σ H Q I h => (pe_lc (pos := pos) hc hN hi ok hg ht he (no_fold hs)).run pins s σ H Q I (comp_red hsl hx h)⟩

theorem s_setLc {i : Nat} {y : Str} {py spos : Pos} {tg it elt : Expr} {ifs : List Expr} {scope : Scope} {own : List (Str × Nat)} {T : Tg} {wi : WIt} {wts we : WEx} {fz : Bool} (hc : X.calm = true) (hN : X.N.Nodup) (hy : X.N[i]? = some y) (hyl : X.env.scope.names.lookup y = some .local)
    (hsw : swapsWith (.ListComp elt [⟨tg, it, ifs, 0⟩] scope pos) (some (.Name y py)) spos.line X.env = pure true) (hi : PI X tg it (LI G W wi)) (ok : BlkOk X.N X.env.scope scope own)
    (hg : ∀ (s : Shared) (H : Hp) (C : Addr) (cl : List (Str × Addr)) (fp : List Addr), PG (X.blk s H scope (compEnvC scope cl C X.env) fp) tg (tgT G.K T))
    (ht : ∀ (s : Shared) (H : Hp) (C : Addr) (cl : List (Str × Addr)) (fp : List Addr), PTs (X.blk s H scope (compEnvC scope cl C X.env) fp) ifs (LT G Wno wts))
    (he : ∀ (s : Shared) (H : Hp) (C : Addr) (cl : List (Str × Addr)) (fp : List Addr), PE (X.blk s H scope (compEnvC scope cl C X.env) fp) elt (LE G Wno we))
    (hs : noSet it = true) (hsl : ∀ i ∈ slotG T, i ∈ own.map (·.2)) (hx : ∀ i ∈ own.map (·.2), G.fre i) :
    PS X (.Assign [.Name y py] (.ListComp elt [⟨tg, it, ifs, 0⟩] scope pos) spos) (tAsg (LE G W (fun fr S Q E => wi fr S (fun w S1 => compW T (own.map (·.2)) wts we w.g w.ds [] fr S1 (fun acc S2 => newL fz acc (w.bk S2) Q)) E)) (gName i)) := by
  refine ⟨fun pins s σ H D I h => (ps_setLc (pos := pos) hc hN hy hyl hsw hi ok hg ht he (no_fold hs)).run pins s σ H D I ?_⟩
  exact comp_red hsl hx h
end
end L4

namespace L4
open PySem PySem.Spec PyProof.Rows L2
theorem isD_of {G : Gd} {F : Addr → Prop} {S : Sto} {H : Hp} {d : D} {v : V} (rs : RS G ⟨F, S, H⟩) (r : Rp G ⟨F, S, H⟩ d v) (e : tyD S d = some "dict") : ∃ a, v = .ref a ∧ IsD H a := by
  cases d <;> simp only [tyD] at e <;> first | exact absurd (Option.some.inj e) (by decide) | (cases e; done) | skip
  · split at e
    · exact absurd (Option.some.inj e) (by decide)
    · rename_i e0
      cases Rp.ref.mp r
      obtain ⟨_, vs, h1, _⟩ := rs.st _ _ e0
      exact ⟨_, rfl, .inl ⟨vs, .inl h1⟩⟩
    · rename_i e0
      cases Rp.ref.mp r
      obtain ⟨_, vs, h1, _⟩ := rs.st _ _ e0
      exact ⟨_, rfl, .inr ⟨vs, .inl h1⟩⟩
    · cases e
  · obtain ⟨a, o, vs, rfl, _, h, _⟩ := Rp.dct.mp r
    exact ⟨a, rfl, .inl ⟨vs, .inr ⟨o, h⟩⟩⟩
  · obtain ⟨a, o, vs, rfl, _, h, _⟩ := Rp.dc2.mp r
    exact ⟨a, rfl, .inr ⟨vs, .inr ⟨o, h⟩⟩⟩
section
variable {X : Cx} {G : Gx} {W : WX} {o a b : Expr} {wo wa wb : WEx} {apos cpos pos : Pos} {fz : Bool}
theorem m1_ok {m : Str} (hb : baseC o = true) (hl : (apos.endLine == cpos.line) = true) (hs : noStar a = true) : M1 X o m apos a cpos :=
  ⟨base_ok hb _, few_ok (es := [a]) (by rw [List.all_cons, hs]; rfl) (Nat.lt_of_sub_eq_succ rfl), hl, by rw [star_cons hs]; rfl⟩
theorem m2_ok {m : Str} (hb : baseC o = true) (hl : (apos.endLine == cpos.line) = true) (hs : noStar a = true) (hs2 : noStar b = true) : M2 X o m apos a b cpos :=
  ⟨base_ok hb _, few_ok (es := [a, b]) (by rw [List.all_cons, List.all_cons, hs, hs2]; rfl) (Nat.lt_of_sub_eq_succ rfl), hl, by rw [star_cons hs, star_cons hs2]; rfl⟩
theorem q_get2 (hu : X.A.units + 1 < cLine) (ho : PE X o (LE G W wo)) (ha : PE X a (LE G W wa)) (hb' : PE X b (LE G W wb)) (hb : baseC o = true) (hl : (apos.endLine == cpos.line) = true) (hs : noStar a = true) (hs2 : noStar b = true) :
    PE X (.Call (.Attribute o "get" apos) [a, b] [] cpos) (LE G W (fun fr S Q E => wo fr S (fun x S1 => tyD S1 x = some "dict" ∧ wa fr S1 (fun y S2 => wb fr S2 (fun z S3 => wpM .get fz x [y, z] S3 Q) E) E) E)) := by
  refine ⟨fun pins s σ H Q I h => (pe_dget2 hu ho ha hb' (m2_ok hb hl hs hs2)).run pins s σ H Q I ?_⟩
  obtain ⟨fr, F, S, Qd, Ed, rf, rs, hw, fe, fx⟩ := h
  refine ⟨fr, F, S, _, Ed, rf, rs, hw, fun x F1 S1 v H1 k1 rs1 r1 h1 => ?_, fx⟩
  obtain ⟨h1, h1'⟩ := h1
  obtain ⟨q, rfl, hd⟩ := isD_of rs1 r1 h1
  refine ⟨q, rfl, hd, fr, F1, S1, _, Ed, rf.tk k1.toRK, rs1, h1', fun y F2 S2 v2 H2 k2 rs2 r2 h2 => ⟨fr, F2, S2, _, Ed, (rf.tk k1.toRK).tk k2.toRK, rs2, h2, fun z F3 S3 v3 H3 k3 rs3 r3 h3 => ?_, fx.tk (k1.trans k2)⟩, fx.tk k1⟩
  unfold wpM at h3
  dsimp only at h3
  have rx := Rp.tk (k2.trans k3).toRK _ _ r1
  have ry := Rp.tk k3.toRK _ _ r2
  have k := (k1.trans k2).trans k3
  split at h3
  · rename_i kvs e
    split at h3
    · rename_i k0 ek
      obtain ⟨q', o', e1, g, hh⟩ := dget_ok rs3 rx e ry ek
      cases e1
      refine ⟨o', g, ?_⟩
      rcases hh with ⟨g1, rfl⟩ | ⟨x', w, g1, rfl, rw'⟩
      · rw [g1] at h3; exact fe _ F3 S3 _ H3 k rs3 r3 h3
      · rw [g1] at h3; exact fe _ F3 S3 _ H3 k rs3 rw' h3
    · exact h3.elim
  · split at h3
    · rename_i kvs e
      split at h3
      · rename_i k0 ek
        obtain ⟨q', o', e1, g, hh⟩ := dget2_ok rs3 rx e ry ek
        cases e1
        refine ⟨o', g, ?_⟩
        rcases hh with ⟨g1, rfl⟩ | ⟨x', w, g1, rfl, rw'⟩
        · rw [g1] at h3; exact fe _ F3 S3 _ H3 k rs3 r3 h3
        · rw [g1] at h3; exact fe _ F3 S3 _ H3 k rs3 rw' h3
      · exact h3.elim
    · exact h3.elim
theorem q_get1 (hu : X.A.units + 1 < cLine) (ho : PE X o (LE G W wo)) (ha : PE X a (LE G W wa)) (hb : baseC o = true) (hl : (apos.endLine == cpos.line) = true) (hs : noStar a = true) :
    PE X (.Call (.Attribute o "get" apos) [a] [] cpos) (LE G W (fun fr S Q E => wo fr S (fun x S1 => tyD S1 x = some "dict" ∧ wa fr S1 (fun y S2 => wpM .get1 fz x [y] S2 Q) E) E)) := by
  refine ⟨fun pins s σ H Q I h => (pe_dget1 hu ho ha (m1_ok hb hl hs)).run pins s σ H Q I ?_⟩
  obtain ⟨fr, F, S, Qd, Ed, rf, rs, hw, fe, fx⟩ := h
  refine ⟨fr, F, S, _, Ed, rf, rs, hw, fun x F1 S1 v H1 k1 rs1 r1 h1 => ?_, fx⟩
  obtain ⟨h1, h1'⟩ := h1
  obtain ⟨q, rfl, hd⟩ := isD_of rs1 r1 h1
  refine ⟨q, rfl, hd, fr, F1, S1, _, Ed, rf.tk k1.toRK, rs1, h1', fun y F2 S2 v2 H2 k2 rs2 r2 h2 => ?_, fx.tk k1⟩
  unfold wpM at h2
  dsimp only at h2
  have rx := Rp.tk k2.toRK _ _ r1
  have k := k1.trans k2
  split at h2
  · rename_i kvs e
    split at h2
    · rename_i k0 ek
      obtain ⟨q', o', e1, g, hh⟩ := dget_ok rs2 rx e r2 ek
      cases e1
      refine ⟨o', g, ?_⟩
      rcases hh with ⟨g1, rfl⟩ | ⟨x', w, g1, rfl, rw'⟩
      · rw [g1] at h2; exact fe _ F2 S2 _ H2 k rs2 (Rp.non.mpr rfl) h2
      · rw [g1] at h2; exact fe _ F2 S2 _ H2 k rs2 rw' h2
    · exact h2.elim
  · exact h2.elim
theorem drop_ok {m : Wd} {G : Gd} {k : Key} : ∀ {vs : List (Key × V)} {kvs : List (Key × D)}, vs.map (·.1) = kvs.map (·.1) → Rps G m (kvs.map (·.2)) (vs.map (·.2)) →
    (dropK vs k).map (·.1) = (kvs.filter fun kv => decide (kv.1 ≠ k)).map (·.1) ∧ Rps G m ((kvs.filter fun kv => decide (kv.1 ≠ k)).map (·.2)) ((dropK vs k).map (·.2))
  | [], [], _, r => ⟨rfl, r⟩
  | [], _ :: _, e, _ => by simp at e
  | _ :: _, [], e, _ => by simp at e
  | (j, v) :: vs, (i, d) :: kvs, e, r => by
    simp only [List.map_cons, List.cons.injEq] at e
    obtain ⟨w, t, e3, r1, r2⟩ := Rps.cons.mp r
    simp only [List.map_cons, List.cons.injEq] at e3
    obtain ⟨rfl, e⟩ := e
    obtain ⟨i1, i2⟩ := drop_ok (k := k) e (by rw [e3.2]; exact r2)
    unfold dropK at i1 i2 ⊢
    rw [List.filter_cons, List.filter_cons]
    by_cases h : j = k
    · simp only [ne_eq, h, not_true_eq_false, decide_false, Bool.false_eq_true, if_false]
      exact ⟨i1, i2⟩
    · simp only [ne_eq, h, not_false_eq_true, decide_true, if_true, List.map_cons]
      exact ⟨by rw [i1], Rps.mk (by rw [e3.1]; exact r1) i2⟩
theorem q_dpop (ho : PE X o (LE G W wo)) (ha : PE X a (LE G W wa)) (hb : baseC o = true) (hl : (apos.endLine == cpos.line) = true) (hs : noStar a = true) :
    PE X (.Call (.Attribute o "pop" apos) [a] [] cpos) (LE G W (fun fr S Q E => wo fr S (fun x S1 => tyD S1 x = some "dict" ∧ wa fr S1 (fun y S2 => wpM .dpop fz x [y] S2 Q) E) E)) := by
  refine ⟨fun pins s σ H Q I h => (pe_dpop1 ho ha (m1_ok hb hl hs)).run pins s σ H Q I ?_⟩
  obtain ⟨fr, F, S, Qd, Ed, rf, rs, hw, fe, fx⟩ := h
  refine ⟨fr, F, S, _, Ed, rf, rs, hw, fun x F1 S1 v H1 k1 rs1 r1 h1 => ?_, fx⟩
  obtain ⟨h1, h1'⟩ := h1
  obtain ⟨q, rfl, hd⟩ := isD_of rs1 r1 h1
  refine ⟨q, rfl, hd, fr, F1, S1, _, Ed, rf.tk k1.toRK, rs1, h1', fun y F2 S2 v2 H2 k2 rs2 r2 h2 => ?_, fx.tk k1⟩
  unfold wpM at h2
  dsimp only at h2
  have rx := Rp.tk k2.toRK _ _ r1
  have k := k1.trans k2
  obtain ⟨p, kvs, vs, e0, e, g1, g2, g3, r, h2⟩ := onD_ok rs2 rx h2
  cases e0
  split at h2
  · rename_i k0 ek
    cases keyD_ok r2 ek
    rcases valV_getK g2 r k0 with ⟨z1, z2⟩ | ⟨x', w, z1, z2, z3⟩
    · rw [z1] at h2; exact h2.elim
    · rw [z1] at h2
      dsimp only at h2
      obtain ⟨i1, i2⟩ := drop_ok (k := k0) g2 r
      have kp : TK ⟨F2, S2, H2⟩ ⟨F2, S2.set q (.dct (kvs.filter fun kv => decide (kv.1 ≠ k0))), L2.upd H2 q (.dK (dropK vs k0))⟩ := TK.put rs2 e
      refine ⟨vs, k0, w, g1, rfl, z2, fe _ _ _ _ _ (k.trans kp) (rs2.put e ⟨_, upd_same, i1, fun x hx => g3 x ?_, Rps.tk kp.toRK _ _ i2⟩) (Rp.tk kp.toRK _ _ z3) h2⟩
      obtain ⟨kv, m1, m2⟩ := List.mem_map.mp hx
      exact List.mem_map.mpr ⟨kv, (List.mem_filter.mp m1).1, m2⟩
  · exact h2.elim
theorem q_dclear (ho : PE X o (LE G W wo)) (hb : baseC o = true) (hl : (apos.endLine == cpos.line) = true) :
    PE X (.Call (.Attribute o "clear" apos) [] [] cpos) (LE G W (fun fr S Q E => wo fr S (fun x S1 => tyD S1 x = some "dict" ∧ wpM .dclear fz x [] S1 Q) E)) := by
  refine ⟨fun pins s σ H Q I h => (pe_bm0 (apos := apos) (cpos := cpos) PySem.F.plainAttrs_dict PySem.F.slot_dict_clear PySem.F.type_dict_clear (sM_dclear (G := G.toGd) (fz := fz)) ho (base_ok hb _) hl).run pins s σ H Q I ?_⟩
  obtain ⟨fr, F, S, Qd, Ed, rf, rs, hw, fe, fx⟩ := h
  refine ⟨fr, F, S, _, Ed, rf, rs, hw, fun d F1 S1 v H1 k1 rs1 r1 h1 => ⟨?_, d, [], F1, S1, Qd, rs1, r1, Rps.mk0, h1.2, fe.tk k1⟩, fx⟩
  have h2 := h1.2
  unfold wpM at h2
  dsimp only at h2
  unfold onD at h2
  split at h2
  · exact tyV_dict rs1 r1 h1.1
  · exact h2.elim

theorem TK.hputD {m : Wd} {F : Addr → Prop} {S : Sto} {H : Hp} {q : Addr} {u : HO} (k : TK m ⟨F, S, H⟩) (n : m.H q = none) {o : O} : TK m ⟨F, S.set q o, upd H q u⟩ := by
  refine ⟨⟨fun a o f e => ?_, fun a xs e => ?_⟩, fun a o e s => ?_⟩
  · obtain ⟨f1, e1⟩ := k.fz a o f e
    exact ⟨f1, by show upd H q _ a = _; rw [upd_ne (ne_of_none e n)]; exact e1⟩
  · show upd H q _ a = _
    rw [upd_ne (ne_of_none e n)]; exact k.tp a xs e
  · obtain ⟨e1, s1, f1⟩ := k.hid a o e s
    exact ⟨by show upd H q _ a = _; rw [upd_ne (ne_of_none e n)]; exact e1, by show S.set q _ a = _; rw [Sto.ne (ne_of_none e n)]; exact s1, f1⟩
theorem RS.tellD {F : Addr → Prop} {S : Sto} {H : Hp} {q : Addr} {u u0 : HO} {o : O} (rs : RS G ⟨F, S, H⟩) (h : H q = some u0) (su : Soft u0) (nf : ¬ F q) (ns : S q = none) (r : RK ⟨F, S, H⟩ ⟨F, S.set q o, upd H q u⟩ → RpO G ⟨F, S.set q o, upd H q u⟩ q o) : RS G ⟨F, S.set q o, upd H q u⟩ := by
  have k : RK ⟨F, S, H⟩ ⟨F, S.set q o, upd H q u⟩ := ⟨fun a x f e => ⟨f, by show upd H q u a = _; rw [upd_ne (fun z => by subst z; exact nf f)]; exact e⟩, fun a xs e => by
    show upd H q u a = _
    have e : H a = _ := e
    rw [upd_ne (fun z => by subst z; rw [h] at e; cases e; exact su)]; exact e⟩
  refine ⟨fun a x e => ?_, fun a f => ?_⟩
  · by_cases ha : a = q
    · subst ha
      have e : S.set a o a = some x := e
      rw [Sto.same] at e; cases e
      exact ⟨nf, r k⟩
    · have e : S.set q o a = some x := e
      rw [Sto.ne ha] at e
      obtain ⟨nf', r'⟩ := rs.st a x e
      exact ⟨nf', r'.kept k (by show upd H q u a = _; rw [upd_ne ha])⟩
  · obtain ⟨x, hx⟩ := rs.ft a f
    exact ⟨x, by show upd H q u a = _; rw [upd_ne (fun z => by subst z; exact nf f)]; exact hx⟩
theorem q_disp0 {t2 : Bool} : PE X (.Dict [] [] pos) (LE G W (fun _ S Q _ => if t2 = true then newO (.dc2 []) S Q else newO (.dct []) S Q)) := by
  cases t2 with
  | true =>
    refine ⟨fun pins s σ H Q I h => pe_dnewT.run pins s σ H Q I fun p hp => ?_⟩
    obtain ⟨fr, F, S, Qd, Ed, rf, rs, hw, fe, fx⟩ := h
    rw [if_pos rfl] at hw
    exact fe _ F (S.set p (.dc2 [])) _ _ (TK.new rs hp) (rs.new (o := .dc2 []) hp ⟨[], upd_same, rfl, fun _ h => (nomatch h), Rps.mk0⟩) (Rp.ref.mpr rfl) (hw p (rs.nil hp))
  | false =>
    refine ⟨fun pins s σ H Q I h => pe_dnewK.run pins s σ H Q I fun p hp => ?_⟩
    obtain ⟨fr, F, S, Qd, Ed, rf, rs, hw, fe, fx⟩ := h
    exact fe _ F (S.set p (.dct [])) _ _ (TK.new rs hp) (rs.new (o := .dct []) hp ⟨[], upd_same, rfl, fun _ h => (nomatch h), Rps.mk0⟩) (Rp.ref.mpr rfl) (hw p (rs.nil hp))

noncomputable def flatV : List (V × V) → List V
  | [] => []
  | (x, y) :: r => x :: y :: flatV r
noncomputable def LPr (G : Gx) (W : WX) (w : WLs) (trs : List (TE × TE)) : Prop := ∀ (σ : L2.St) (H : Hp) (Q : List (V × V) → Hp → Prop),
  (∃ fr F S Qd Ed, RF G ⟨F, S, H⟩ fr σ ∧ RS G ⟨F, S, H⟩ ∧ w fr S Qd Ed ∧ (∀ ds F' S' ps H', TK ⟨F, S, H⟩ ⟨F', S', H'⟩ → RS G ⟨F', S', H'⟩ → Rps G ⟨F', S', H'⟩ ds (flatV ps) → Qd ds S' → Q ps H') ∧ FX G ⟨F, S, H⟩ Ed fun c d H' => W c d σ H') → tPairs trs σ H Q
theorem pr_nil : LPr G W (fun _ S Q _ => Q [] S) [] := by
  intro σ H Q h
  obtain ⟨fr, F, S, Qd, Ed, rf, rs, hw, fe, fx⟩ := h
  exact fe [] F S [] H (TK.refl _) rs Rps.mk0 hw
theorem pr_cons {ws : WLs} {trs : List (TE × TE)} (hr : LPr G W ws trs) : LPr G W (fun fr S Q E => wa fr S (fun x S1 => wb fr S1 (fun y S2 => ws fr S2 (fun ds S3 => Q (x :: y :: ds) S3) E) E) E) ((LE G W wa, LE G W wb) :: trs) := by
  intro σ H Q h
  obtain ⟨fr, F, S, Qd, Ed, rf, rs, hw, fe, fx⟩ := h
  refine ⟨fr, F, S, _, Ed, rf, rs, hw, fun x F1 S1 v1 H1 k1 rs1 r1 h1 => ⟨fr, F1, S1, _, Ed, rf.tk k1.toRK, rs1, h1, fun y F2 S2 v2 H2 k2 rs2 r2 h2 => ?_, fx.tk k1⟩, fx⟩
  refine hr σ H2 _ ⟨fr, F2, S2, _, Ed, (rf.tk k1.toRK).tk k2.toRK, rs2, h2, fun ds F3 S3 ps H3 k3 rs3 r3 h3 => ?_, fx.tk (k1.trans k2)⟩
  exact fe _ F3 S3 ((v1, v2) :: ps) H3 ((k1.trans k2).trans k3) rs3 (Rps.mk (Rp.tk (k2.trans k3).toRK _ _ r1) (Rps.mk (Rp.tk k3.toRK _ _ r2) r3)) h3
theorem pairsF_ok {m : Wd} {G : Gd} : ∀ {ds : List D} {kvs : List (Key × D)} {ps : List (V × V)}, pairsF ds = some kvs → Rps G m ds (flatV ps) → ∃ vs : List (Key × V), ps = vs.map (fun kv => (kV kv.1, kv.2)) ∧ vs.map (·.1) = kvs.map (·.1) ∧ kok (kvs.map (·.1)) ∧ Rps G m (kvs.map (·.2)) (vs.map (·.2))
  | [], kvs, ps, e, r => by
    cases e
    cases ps with
    | nil => exact ⟨[], rfl, rfl, fun _ h => (nomatch h), Rps.mk0⟩
    | cons p ps => obtain ⟨x, y⟩ := p; have := Rps.nil.mp r; cases this
  | [k], kvs, ps, e, r => by unfold pairsF at e; cases e
  | k :: d :: ds, kvs, ps, e, r => by
    unfold pairsF at e
    cases ps with
    | nil => obtain ⟨_, _, e1, _⟩ := Rps.cons.mp r; cases e1
    | cons p ps =>
      obtain ⟨x, y⟩ := p
      obtain ⟨x', t', e1, r1, r2⟩ := Rps.cons.mp r
      cases e1
      obtain ⟨y', t2, e2, r3, r4⟩ := Rps.cons.mp r2
      cases e2
      split at e
      · rename_i k0 ps0 ek ep
        cases e
        obtain ⟨vs, i1, i2, i3, i4⟩ := pairsF_ok ep r4
        refine ⟨(k0, y) :: vs, by rw [List.map_cons, i1, keyD_ok r1 ek], by rw [List.map_cons, List.map_cons, i2], fun z hz => ?_, Rps.mk r3 i4⟩
        rw [List.map_cons] at hz
        rcases List.mem_cons.mp hz with hz | hz
        · subst hz
          cases k <;> simp only [keyD] at ek <;> cases ek
          exact (Rp.str.mp r1).2
        · exact i3 z hz
      · cases e

theorem q_disp {keys : List (Option Expr)} {values : List Expr} {trs : List (TE × TE)} {ws : WLs} (h : PPs X pos keys values trs) (hp : LPr G W ws trs) (hall : keys.all (·.isSome) = true) (hl : keys.length = values.length) (h0 : keys ≠ []) (h15 : keys.length ≤ 15) :
    PE X (.Dict keys values pos) (LE G W (fun fr S Q E => ws fr S (fun ds S1 => match pairsF ds with
      | some kvs => kvs.length ≤ 15 ∧ newO (.dct (mergeD [] kvs)) S1 Q
      | none => False) E)) := by
  refine ⟨fun pins s σ H Q I hh => (pe_disp h hall hl h0 h15).run pins s σ H Q I fun p hp' => ?_⟩
  obtain ⟨fr, F, S, Qd, Ed, rf, rs, hw, fe, fx⟩ := hh
  have k0 : TK ⟨F, S, H⟩ ⟨F, S, upd H p (.dK [])⟩ := TK.lay rs hp'
  have rs0 : RS G ⟨F, S, upd H p (.dK [])⟩ := rs.lay hp'
  refine hp σ _ _ ⟨fr, F, S, _, Ed, rf.tk k0.toRK, rs0, hw, fun ds F1 S1 ps H1 k1 rs1 r1 h1 => ?_, fx.tk k0⟩
  obtain ⟨e1, nS, nF⟩ := k1.hid p _ upd_same (rs.nil hp')
  have nF1 : ¬ F1 p := fun f => rs.noF hp' (nF f)
  refine ⟨e1, ?_⟩
  (try dsimp only at h1)
  split at h1
  · rename_i kvs e
    obtain ⟨hl1, h1⟩ := h1
    obtain ⟨vs, rfl, g1, g2, g3⟩ := pairsF_ok e r1
    obtain ⟨m1, m2, m3⟩ := mergeD_ok (kvs := []) (vs := []) g1 g2 g3 rfl (fun _ h => (nomatch h)) Rps.mk0
    refine ⟨vs, rfl, by have := congrArg List.length g1; simp at this; omega, ?_⟩
    have k2 := (k0.trans k1).hputD (q := p) (u := .dK (mergeK [] vs)) (o := .dct (mergeD [] kvs)) hp'
    exact fe _ F1 (S1.set p (.dct (mergeD [] kvs))) _ _ k2 (rs1.tellD e1 trivial nF1 nS fun k => ⟨_, upd_same, m1, m2, Rps.tk k _ _ m3⟩) (Rp.ref.mpr rfl) (h1 p nS)
  · exact h1.elim
theorem q_gc {P : PD} {n j : Nat} {x : Str} {d : D} {p : Pos} (Fa : Facts X G P n) (e : P.gcs[j]? = some (x, d)) (gl : Gl X x) (hd : (x == ("__debug__" : Str)) = false) : PE X (.Name x p) (LE G W (fun _ S Q _ => match P.gcs[j]? with
    | some (_, d) => Q d S
    | none => False)) := by
  rw [e]
  obtain ⟨u, v, h1, h2, h3⟩ := Fa.gcs j x d e
  exact q_glob gl h1 h2 (fun m => h3 m) hd

theorem q_gidx {P : PD} {n j : Nat} {x : Str} {d : D} {p : Pos} {y : Expr} (Fa : Facts X G P n) (hK : X.K = G.K) (e : P.gcs[j]? = some (x, d)) (gl : Gl X x) (hd : (x == ("__debug__" : Str)) = false) (ha : PE X y (LE G W wa)) (hl : (apos.endLine == cpos.line) = true) (hs : noStar y = true) :
    PE X (.Call (.Attribute (.Name x p) "index" apos) [y] [] cpos) (LE G W (fun fr S Q E => match P.gcs[j]? with
    | some (_, .tup ds) => wa fr S (fun y S1 => match y with
      | .str z => match strsOf ds with
        | some ss => match ss.idxOf? z with
          | some k => Q (.int k) S1
          | none => False
        | none => False
      | _ => False) E
    | _ => False)) := by
  rw [e]
  obtain ⟨u, v, h1, h2, h3⟩ := Fa.gcs j x d e
  refine ⟨fun pins s σ H Q I h => ?_⟩
  obtain ⟨fr, F, S, Qd, Ed, rf, rs, hw, fe, fx⟩ := h
  (try dsimp only at hw)
  split at hw
  · rename_i ds e0
    cases e0
    obtain ⟨a, xs, rfl, hk, _, rr⟩ := Rp.tup.mp (h3 ⟨fun _ => False, fun _ => none, fun _ => none⟩)
    have hk : KTup G.K a xs := by
      rcases hk with hk | hk
      · cases hk
      · exact hk
    have hk' := hk
    obtain ⟨o, its, m, k1, k2, k3, k4, k5, k6⟩ := hk'
    refine (pe_bm (apos := apos) (cpos := cpos) (T := "tuple") (id := "tuple.index") PySem.F.plainAttrs_tuple PySem.F.slot_tuple_index PySem.F.type_tuple_index mt_tup_index (pe_glob (v := V.ref a) gl h1 h2 hd) (q_cons ha q_nil hs) (base_ok rfl _) (few_ok (es := [y]) (by rw [List.all_cons, hs]; rfl) (Nat.lt_of_sub_eq_succ rfl)) hl (star_cons hs) rfl).run pins s σ H Q I ?_
    refine ⟨.inr (.inl ⟨rfl, o, by rw [hK]; exact k1, k2, k3⟩), ?_⟩
    refine ⟨fr, F, S, (fun ds1 S1 => match ds1 with
      | [y] => match y with
        | .str z => match strsOf ds with
          | some ss => match ss.idxOf? z with
            | some k => Qd (.int k) S1
            | none => False
          | none => False
        | _ => False
      | _ => False), Ed, rf, rs, hw, fun ds1 F1 S1 vs1 H1 t1 rs1 r1 h1 => ?_, fx⟩
    (try dsimp only at h1)
    split at h1
    case h_2 => exact h1.elim
    obtain ⟨v1, rfl, r2⟩ := r1.one
    split at h1
    · obtain ⟨rfl, ok⟩ := Rp.str.mp r2
      split at h1
      · rename_i ss e2
        split at h1
        · rename_i k e3
          obtain ⟨rfl, hs'⟩ := strsOf_rps rr e2
          obtain ⟨i1, i2⟩ := idx_of e3
          exact ⟨a, ss, _, k, rfl, rfl, by rw [hK]; exact (TpV.sq (G := G.toGd) (m := ⟨F1, S1, H1⟩) (.inr hk)), i1, i2, fe _ F1 S1 _ H1 t1 rs1 (Rp.int.mpr rfl) h1⟩
        · exact h1.elim
      · exact h1.elim
    · exact h1.elim
  · exact hw.elim
end
end L4

namespace L4
open PySem PySem.Calls PyProof.Rows PyProof.V PySem.Spec
section
variable {prog : Program} {w : World} {A : Around} {E : Value → Shared → Prop} {s : Shared}
variable {l : Addr} {its : Array Value}
end
end L4

namespace L4
open PySem PySem.Calls PyProof.Rows PyProof.V PySem.Spec
section
variable {prog : Program} {w : World} {A : Around} {R : Result → Shared → Prop} {I : Addr} {fp wr : List Addr} {G : Array GenState → Array GenState → Prop} {n : Nat} {P : Nat → Value → Prop} {St : Nat → Shared → Prop}
end
section
variable {prog : Program} {w : World} {A : Around} {E : Value → Shared → Prop} {s : Shared}
end
end L4

namespace L4
open PySem PySem.Calls PyProof.Rows PyProof.V PySem.Spec
open L2 (Ris layNew_ris layNew_led relayAll_ris relayAll_led collect_set code_set_led1 store_at)
noncomputable def keyTx (e : Int × Value) : Str := match e.2 with
  | .str x _ => x
  | _ => ⟨#[]⟩
noncomputable def GoodTx (P : Program) (w : World) (e : Int × Value) : Prop := ∃ x tk, e.2 = Value.str x tk ∧ e.1 = (strKind P w).hash x
noncomputable def SetTx (P : Program) (w : World) (h : Heap) (a : Addr) (S : Str → Bool) (n : Nat) : Prop :=
  ∃ o es ep t, h.get? a = some o ∧ o.ExactSet ∧ o.data = .set es ep t ∧ (∀ e ∈ es.toList, GoodTx P w e) ∧ (es.toList.map keyTx).Nodup ∧ (∀ k, S k = true ↔ k ∈ es.toList.map keyTx) ∧
    es.size < scanBound ∧ t.fits es.size = true ∧ es.size = n ∧ Ris t.place.toList ∧ (w.params.followText "set-order" = true ∨ t.led = true)
section
variable {P : Program} {w : World} {h h' : Heap} {a : Addr} {S : Str → Bool} {n : Nat}
theorem SetTx.at (R : SetTx P w h a S n) (k : ∀ o, h.get? a = some o → h'.get? a = some o) : SetTx P w h' a S n := by
  obtain ⟨o, es, ep, t, ho, r⟩ := R
  exact ⟨o, es, ep, t, k o ho, r⟩
theorem SetTx.congr {S' : Str → Bool} {m : Nat} (R : SetTx P w h a S n) (e : ∀ k, S' k = S k) (en : m = n) : SetTx P w h a S' m := by
  have q : S' = S := funext e
  rw [q, en]; exact R
end
section
variable {P : Program} {w : World} {A : Around} {E : Value → Shared → Prop} {s : Shared} {a : Addr} {S : Str → Bool} {n : Nat}
end
section
variable {prog : Program} {w : World} {A : Around} {R : Result → Shared → Prop} {I : Addr} {fp wr : List Addr} {G : Array GenState → Array GenState → Prop} {n : Nat} {P : Nat → Value → Prop} {St : Nat → Shared → Prop}
end
section
variable {prog : Program} {w : World} {A : Around} {E : Value → Shared → Prop} {s : Shared}

end
end L4

namespace L4
open PySem PySem.Spec PyProof.Rows L2
section
variable {X : Cx} {G : Gx} {W : WX} {a : Expr} {wa : WEx} {pos : Pos} {P : Pg} {fz : Bool}
theorem TK.ext {F : Addr → Prop} {S : Sto} {H H' : Hp} (k : ∀ b o, H b = some o → H' b = some o) : TK ⟨F, S, H⟩ ⟨F, S, H'⟩ := ⟨⟨fun c o f e => ⟨f, k c o e⟩, fun c xs e => k c _ e⟩, fun c o e n => ⟨k c o e, n, id⟩⟩
theorem RS.ext {F : Addr → Prop} {S : Sto} {H H' : Hp} (rs : RS G.toGd ⟨F, S, H⟩) (k : ∀ b o, H b = some o → H' b = some o) : RS G.toGd ⟨F, S, H'⟩ := ⟨fun c o e => by
  obtain ⟨nf, r⟩ := rs.st c o e
  obtain ⟨u, hu, _⟩ := r.soft
  exact ⟨nf, r.kept (TK.ext k).toRK (by show H' c = H c; rw [show H c = some u from hu]; exact k c u hu)⟩, fun c f => by
  obtain ⟨o, e⟩ := rs.ft c f
  exact ⟨o, k c o e⟩⟩
noncomputable def LEs (G : Gx) (W : WX) (w : WEx) : TE := fun σ H Q => ∃ fr F S Qd Ed, RF G ⟨F, S, H⟩ fr σ ∧ RS G ⟨F, S, H⟩ ∧ w fr S Qd Ed ∧ (∀ y F' S' H', TK ⟨F, S, H⟩ ⟨F', S', H'⟩ → RS G ⟨F', S', H'⟩ → sok y → Qd (.str y) S' → Q (.str y) H') ∧ FX G ⟨F, S, H⟩ Ed fun c d H' => W c d σ H'

theorem q_fmtR {p : Pos} (hK : X.K = G.K) (hm : SmD X.base) (hg : X.A.guards = some []) (hu : X.A.units + 64 < cLine) (ha : PE X a (LE G W wa)) : PE X (.FormattedValue a 114 none p) (LEs G W (fun fr S Q E => wa fr S (fun x S1 => wpB P .repr fz [x] S1 Q) E)) := by
  refine ⟨fun pins s σ H Q I h => ?_⟩
  obtain ⟨fr, F, S, Qd, Ed, rf, rs, hw, fe, fx⟩ := h
  refine wpAny_FormattedValue_repr (thn (ha.run pins s σ H (fun v H1 => ∃ F1 S1 d, TK ⟨F, S, H⟩ ⟨F1, S1, H1⟩ ∧ RS G ⟨F1, S1, H1⟩ ∧ Rp G ⟨F1, S1, H1⟩ d v ∧ wpB P .repr fz [d] S1 Qd) I ?_) fun u s1 hv => ?_)
  · exact ⟨fr, F, S, _, Ed, rf, rs, hw, fun d F1 S1 v H1 k1 rs1 r1 h1 => ⟨F1, S1, d, k1, rs1, r1, h1⟩, fx⟩
  obtain ⟨v, H1, I1, ru, F1, S1, d, k1, rs1, r1, h1⟩ := hv
  unfold wpB at h1
  dsimp only at h1
  have sm : SmD s1.heap := let ⟨o, es, ep, e1, e2⟩ := hm; ⟨o, es, ep, I1.bk _ _ e1, e2⟩
  have go : ∀ (q : PyData) (bs : List Addr), (q.showable = true ∧ Line q.shown.length ∧ q.depth ≤ 20) ∧ Qd (.str q.shown) S1 → Reads s1.heap u q bs → sysModules ∉ bs → sok q.shown → wpAny (model X.prog X.w) X.A (pyReprObj u) (fun r s2 => wpAny (model X.prog X.w) X.A (formatField r Str.empty) (EP X pins σ Q) X.xe s2) X.xe s1 := by
    intro q bs hq rr hn hs
    obtain ⟨⟨g1, g2, g3⟩, g4⟩ := hq
    have last : ∀ (h' : Heap) (tk : Nat) (t : Tok), (∀ c o, s1.heap.get? c = some o → h'.get? c = some o) → wpAny (model X.prog X.w) X.A (formatField (.str q.shown t) Str.empty) (EP X pins σ Q) X.xe { s1 with heap := h', toks := tk } := fun h' tk t k =>
      have fin : ∀ (tk1 : Nat) (t1 : Tok), EP X pins σ Q (.str q.shown t1) { s1 with heap := h', toks := tk1 } := fun tk1 t1 => ⟨.str q.shown, H1, I1.kept k, ⟨_, rfl⟩, fe _ F1 S1 H1 k1 rs1 hs g4⟩
      wpAny_formatField_str (fin _ _) (fin _ _) (line_ok g2)
    have same : ∀ c o, s1.heap.get? c = some o → s1.heap.get? c = some o := fun _ _ y => y
    have deep : ∀ (c : Addr) (bs : List Addr), Reads s1.heap (.ref c) q bs → sysModules ∉ bs → wpAny (model X.prog X.w) X.A (pyReprObj (.ref c)) (fun r s2 => wpAny (model X.prog X.w) X.A (formatField r Str.empty) (EP X pins σ Q) X.xe s2) X.xe s1 := fun c bs rr hn =>
      pyReprObj_of_reads rr g1 (fun _ => hn) hg (by omega) (fun _ _ e => e) (fun h' t tk k => last h' tk t k) (line_ok g2)
    cases rr with
    | none => exact pyReprObj_none (by simpa only [PyData.shown] using last s1.heap _ _ same)
    | bool b => exact pyReprObj_bool (by simpa only [PyData.shown] using last s1.heap _ _ same)
    | int i t =>
      simp only [PyData.showable, decide_eq_true_eq] at g1
      exact pyReprObj_int g1 (by simpa only [PyData.shown] using last s1.heap _ _ same)
    | str z t => exact pyReprObj_str (by simpa only [PyData.shown] using last s1.heap _ _ same) (by have := line_ok g2; simpa only [PyData.shown] using this)
    | list c1 c2 c3 c4 => exact deep _ _ (.list c1 c2 c3 c4) hn
    | tuple c1 c2 c3 c4 => exact deep _ _ (.tuple c1 c2 c3 c4) hn
    | dict c1 c2 c3 c4 c5 => exact deep _ _ (.dict c1 c2 c3 c4 c5) hn
  split at h1
  · rename_i q e
    rcases topD_rp rs1 r1 with e2 | ⟨ys, e2, e3⟩
    · rw [e2] at e
      obtain ⟨bs, rr, hn⟩ := reads_of hK I1 d v u q r1 ru e
      exact go q bs h1 rr (hn sm) (py_sok d v q r1 e)
    · rw [e2] at e
      obtain ⟨c, vs, rfl, q1, rr⟩ := lv_ok rs1 r1 e3
      cases ru
      simp only [pyD] at e
      split at e <;> cases e
      rename_i ps e4
      obtain ⟨its, rv2, ⟨o, m, ho, hcl, hdi, hd2⟩, _⟩ := I1.list (a := c) (xs := vs) (SqL.of q1)
      obtain ⟨as, ra2, hn⟩ := readsAll_of hK I1 ys vs its ps rr rv2 e4
      exact go _ _ h1 (.list ho hcl hd2 ra2) (sm_cons ho hd2 hn sm) (by simp only [PyData.shown]; exact sok_append (sok_textFrom _ _ _ (sok_ofString _) (pys_sok ys vs ps rr e4)) (sok_ofString _))
  · split at h1
    · rename_i q e
      have rq := res_rq rs1 8 d v r1
      obtain ⟨bs, rr, hn⟩ := reads_q hK I1 _ v u q rq ru e
      exact go q bs h1 rr (hn sm) (q_sok _ v q rq e)
    · exact h1.elim
theorem j_valR {ts : List TE} {we : WEx} {w : Str → Fr → Sto → (Str → Sto → Prop) → PoX → Prop} (hr : LJ G W w ts) : LJ G W (fun acc fr S Q E => we fr S (fun x S1 => match x with
    | .str y => Line y.length ∧ Line (acc.length + y.length) ∧ w (acc ++ y) fr S1 Q E
    | .int i => i.natAbs < 2 ^ 1900 ∧ Line (acc.length + (toString i : Str).length) ∧ w (acc ++ (toString i : Str)) fr S1 Q E
    | _ => False) E) (LEs G W we :: ts) := by
  intro acc σ H Q h
  obtain ⟨fr, F, S, Qd, Ed, rf, rs, ok, hw, fe, fx⟩ := h
  refine ⟨fr, F, S, _, Ed, rf, rs, hw, fun y F1 S1 H1 k1 rs1 oy h1 => ?_, fx⟩
  exact ⟨y, rfl, by rw [Str.length_append]; exact line_ok h1.2.1, hr _ σ H1 Q ⟨fr, F1, S1, Qd, Ed, rf.tk k1.toRK, rs1, sok_append ok oy, h1.2.2, fun out F' S' H' k' => fe out F' S' H' (k1.trans k'), fx.tk k1⟩⟩

noncomputable def spN (f : Bf) : List Str := match f with
  | .lrng => ["list", "range"]
  | .lrev => ["list", "reversed"]
  | .lenset => ["len", "set"]
  | .lvals => ["list"]
  | .litems => ["list"]
  | _ => []
end
end L4

namespace L4
open PySem PySem.Spec PyProof.Rows L2

noncomputable def IsKeyV : L2.Key → Value → Prop
  | .inl i, u => ∃ t, u = .int i t
  | .inr x, u => ∃ t, u = .str x t
inductive KeysV : List L2.Key → List Value → Prop
  | nil {us : List Value} : KeysV [] us
  | cons {k : L2.Key} {ks : List L2.Key} {u : Value} {us : List Value} (h : IsKeyV k u) (r : KeysV ks us) : KeysV (k :: ks) (u :: us)

section
variable {prog : Program} {w : World} {A : Around} {E : Value → Shared → Prop} {s : Shared}
end
end L4

namespace L4
open PySem PySem.Spec PyProof.Rows L2

section
variable {X : Cx} {pins : List (Addr × Obj)} {σ : L2.St} {H : Hp} {s : Shared} {Q : VK}
end

section
variable {X : Cx} {G : Gx} {P : Pg} {W : WX} {a : Expr} {wa : WEx} {fz : Bool} {pos : Pos}
noncomputable def spA2 (_ : Bf) (_ : Expr) : Option Expr := none
noncomputable def spN2 (f : Bf) : List Str := match f with
  | .sitems => ["sorted"]
  | .sortset => ["sorted", "set"]
  | f => spN f
theorem q_sp2 {f : Bf} {e b : Expr} (h : spA2 f e = some b) (hn : ∀ x ∈ spN2 f, Gl X x ∧ X.mg x = none) (hK : X.K = G.K) (hc : X.calm = true) (hs : noStar b = true) (hb : PE X b (LE G W wa)) : PE X e (LE G W (fun fr S Q E => wa fr S (fun x S1 => wpB P f fz [x] S1 Q) E)) := by
  cases h
end
end L4

namespace L4
open PySem PySem.Spec PyProof.Rows L2

section
variable {X : Cx} {G : Gx} {W : WX} {P : PD} {n : Nat}
theorem clsX1_ok {d : D} {u : Cl} (e : clsX1 P.toPg d = some u) : (u = .ty "ValueError" ∧ d = .ty "ValueError") ∨ ∃ k, u = .cls k ∧ d = .cls k ∧ P.exc k = true := by
  unfold clsX1 at e
  split at e
  · split at e
    · rename_i h
      cases e
      subst h
      exact .inl ⟨rfl, rfl⟩
    · cases e
  · split at e
    · rename_i h
      cases e
      exact .inr ⟨_, rfl, rfl, h⟩
    · cases e
  · cases e
theorem clsX1_rp {m : Wd} {d : D} {v : V} {u : Cl} (r : Rp G m d v) (e : clsX1 P.toPg d = some u) : ClsV v (clV G u) := by
  rcases clsX1_ok e with ⟨rfl, rfl⟩ | ⟨k, rfl, rfl, _⟩
  · exact cls_rp r (.inl ⟨_, rfl, rfl⟩)
  · exact cls_rp r (.inr ⟨_, rfl, rfl⟩)
theorem clsX1_kit (T : XisF X.K G P) {k : Nat} (hk : P.exc k = true) {d : D} {u : Cl} (e : clsX1 P.toPg d = some u) : PySem.W.kitOne X.K (.ref (G.ca k)) (clV G u) = some (isX P.toPg k u) := by
  rcases clsX1_ok e with ⟨rfl, rfl⟩ | ⟨j, rfl, rfl, hj⟩
  · exact T.ct k hk
  · exact T.cc k j hk hj
theorem clsXs_ok {m : Wd} (T : XisF X.K G P) {k : Nat} (hk : P.exc k = true) : ∀ {ds : List D} {vs : List V} {ns : List Cl}, Rps G m ds vs → clsXs P.toPg ds = some ns → Paired ClsV vs (ns.map (clV G)) ∧ ∀ u ∈ ns, PySem.W.kitOne X.K (.ref (G.ca k)) (clV G u) = some (isX P.toPg k u)
  | [], _, ns, r, e => by
    rw [Rps.nil.mp r]
    cases Option.some.inj e
    exact ⟨.nil, fun _ h => (nomatch h)⟩
  | d :: ds, _, ns, r, e => by
    obtain ⟨v, t, rfl, r1, r2⟩ := Rps.cons.mp r
    unfold clsXs at e
    cases e1 : clsX1 P.toPg d with
    | none => rw [e1] at e; cases e
    | some n =>
      cases e2 : clsXs P.toPg ds with
      | none => rw [e1, e2] at e; cases e
      | some ms =>
        rw [e1, e2] at e
        cases e
        obtain ⟨k1, k2⟩ := clsXs_ok T hk r2 e2
        refine ⟨.cons (clsX1_rp r1 e1) k1, fun u hu => ?_⟩
        rcases List.mem_cons.mp hu with rfl | hu
        · exact clsX1_kit T hk e1
        · exact k2 u hu
theorem clsX_cases {d : D} {ns : List Cl} (e : clsX P.toPg d = some ns) : (∃ ds, d = .tup ds ∧ clsXs P.toPg ds = some ns) ∨ ∃ n, clsX1 P.toPg d = some n ∧ ns = [n] := by
  unfold clsX at e
  split at e
  · exact .inl ⟨_, rfl, e⟩
  · split at e
    · rename_i n h
      cases e
      exact .inr ⟨n, h, rfl⟩
    · cases e

theorem xat_inst {pins : List (Addr × Obj)} {σ : L2.St} {H : Hp} {s : Shared} {F : Addr → Prop} {S : Sto} {x : Exc} {a : Addr} {k : Nat} (hp : ∀ a o, G.px a o → (a, o) ∈ X.pn) (I : Inv X pins σ H s) (h : XAt G ⟨F, S, H⟩ x a) (hk : x.cls = .cls k) :
    ∃ oe od, PySem.W.InstAt s.heap a oe (G.ca k) od ∧ ((x.fs = [] ∧ od = none) ∨ ∃ (vs : List (Str × V)) (ob : Obj) (mA : Str → Option Value), od = some ob ∧ RFs G ⟨F, S, H⟩ x.fs vs ∧ (∀ f, PySem.W.lookIn f ob = some (mA f)) ∧ ∀ f, RelO (vs.lookup f) (mA f)) := by
  obtain ⟨c, oe, dd, e1, p, ⟨z1, z2⟩, ⟨fv, f⟩, r⟩ := h
  rw [e1] at hk
  cases hk
  obtain ⟨ha, _⟩ := I.pin (a, oe) (List.mem_append_left _ (hp a oe p))
  rcases r with ⟨r1, r2⟩ | ⟨b, vs, e, ff, q, r⟩
  · refine ⟨oe, none, ⟨ha, z1, by unfold PySem.W.notCls; rw [f] <;> rfl, by rw [z2, r2]; trivial⟩, .inl ⟨r1, rfl⟩⟩
  · have q : H b = some (.xd vs) := q
    have hx : ObjOk X.prog X.w H s.heap b (.xd vs) := I.hok b _ q
    obtain ⟨mA, hns, hr⟩ := hx
    obtain ⟨ob, ho, hl⟩ := lookIn_ns hns
    exact ⟨oe, some ob, ⟨ha, z1, by unfold PySem.W.notCls; rw [f] <;> rfl, by rw [z2, e]; exact ho⟩, .inr ⟨vs, ob, mA, rfl, r, hl, hr⟩⟩

noncomputable def LxB (G : Gx) (P : PD) : List V → Hp → VK → Prop := fun xs H Q => ∃ a y v F S Qd x k us, xs = [.ref a, v] ∧ RS G ⟨F, S, H⟩ ∧ Rp G ⟨F, S, H⟩ y v ∧ XAt G ⟨F, S, H⟩ x a ∧ x.cls = .cls k ∧ P.exc k = true ∧ clsX P.toPg y = some us ∧ Qd (.bl (us.any (isX P.toPg k))) S ∧ FE G ⟨F, S, H⟩ Qd Q
theorem call_xis (hK : X.K = G.K) (T : XisF X.K G P) (hp : ∀ a o, G.px a o → (a, o) ∈ X.pn) : CallR X (.builtin "isinstance") (LxB G P) := by
  intro pins s σ H xs us Q I rv h
  obtain ⟨a, y, v, F, S, Qd, x, k, ns, rfl, rs, r2, hx, ec, hk, e2, hq, fe⟩ := h
  obtain ⟨oe, od, J, _⟩ := xat_inst hp I hx ec
  have fin : Q (.bl (ns.any (isX P.toPg k))) H := fe _ F S _ H (TK.refl _) rs (Rp.bl.mpr rfl) hq
  have t := T.t k hk
  have Z := PySem.W.kitx_exc (K := X.K) (x := a) (C := G.ca k) (od := od) (ox := oe) t.cl t.ga t.gt t.sub t.ha t.hn t.htk t.hm
  obtain ⟨u1, u2, rfl, g1, g2⟩ := vals2 rv
  cases (show u1 = Value.ref a from g1)
  rcases clsX_cases e2 with ⟨ds, rfl, e3⟩ | ⟨n, e3, rfl⟩
  · obtain ⟨tp, vs, rfl, hq2, _, r3⟩ := Rp.tup.mp r2
    obtain ⟨k1, k2⟩ := clsXs_ok T hk r3 e3
    cases (show u2 = Value.ref tp from g2)
    obtain ⟨its, rv2, ⟨o, h1, h2, m, h3⟩, _⟩ := I.tuple (a := tp) (xs := vs) (by rw [hK]; exact hq2.sq)
    have e4 := ClsV.all k1 rv2
    subst e4
    obtain ⟨oc, od', dt, sl⟩ := o
    simp only at h2 h3
    subst h2 h3
    exact PySem.W.kia_tup Z I.kIn J h1 (kit_anyG ns k2) (fun z => nomatch z) fun tk => ⟨.bl _, H, I.tok tk, rfl, fin⟩
  · have fin' : Q (.bl (isX P.toPg k n)) H := by
      have : [n].any (isX P.toPg k) = isX P.toPg k n := by simp
      rw [this] at fin
      exact fin
    have e5 : u2 = clV G n := (clsX1_rp r2 e3).eq g2
    subst e5
    exact PySem.W.kia_one Z I.kIn J (clsX1_kit T hk e3) (fun z => nomatch z) fun tk => ⟨.bl _, H, I.tok tk, rfl, fin'⟩
theorem q_xis {i : Nat} {x : Str} {p q pos : Pos} {ce : Expr} {wc : WEx} (Fa : Facts X G P n) (hp : ∀ a o, G.px a o → (a, o) ∈ X.pn) (hxi : ∃ y, G.xi = some (i, y)) (hg : Gl X "isinstance") (hm : X.mg "isinstance" = none) (hN : X.N[i]? = some x) (hv : Vis X.env.scope x) (hd : (x == ("__debug__" : Str)) = false) (hcd : (x == ("__classdict__" : Str)) = false)
    (hc : PE X ce (LE G W wc)) (hs : noStar ce = true) :
    PE X (.Call (.Name "isinstance" p) [.Name x q, ce] [] pos) (LE G W (fun fr S Q E => wc fr S (fun y S1 => match G.xi.map (·.2) with
      | some x => match x.cls with
        | .cls k => P.exc k = true ∧ match clsX P.toPg y with
          | some us => Q (.bl (us.any (isX P.toPg k))) S1
          | none => False
        | _ => False
      | none => False) E)) := by
  have ha : PA X [.Name x q, ce] (tCons (tVar i) (tCons (LE G W wc) tNil)) := pa_cons (pe_var hN hv hd hcd) (pa_cons hc pa_nil (star_cons hs)) rfl
  refine ⟨fun pins s σ H Q I h => (pe_callB (pos := pos) (p := p) (call_xis Fa.K Fa.xis hp) hg hm (by decide +kernel) ha (by decide +kernel) (by decide +kernel) rfl (star_any (by rw [List.all_cons, hs]; rfl))).run pins s σ H Q I ?_⟩
  obtain ⟨fr, F, S, Qd, Ed, rf, rs, hw, fe, fx⟩ := h
  obtain ⟨y, hy⟩ := hxi
  obtain ⟨a, h1, h2⟩ := rf.ex i y hy
  refine ⟨_, h1, fr, F, S, _, Ed, rf, rs, hw, fun d F1 S1 v H1 k1 rs1 r1 hq => ?_, fx⟩
  rw [hy] at hq
  have hq : (match y.cls with
        | .cls k => P.exc k = true ∧ match clsX P.toPg d with
          | some us => Qd (.bl (us.any (isX P.toPg k))) S1
          | none => False
        | _ => False) := hq
  split at hq
  · rename_i k ek
    obtain ⟨hk, hq⟩ := hq
    split at hq
    · rename_i us eu
      exact ⟨a, d, v, F1, S1, Qd, y, k, us, rfl, rs1, r1, h2.tk k1.toRK, ek, hk, eu, hq, fe.tk k1⟩
    · exact hq.elim
  · exact hq.elim

theorem q_xfd {i : Nat} {x f : Str} {q pos : Pos} (Fa : Facts X G P n) (hp : ∀ a o, G.px a o → (a, o) ∈ X.pn) (hxi : ∃ y, G.xi = some (i, y)) (hf : ∃ j, P.exc j = true ∧ f ∈ P.xfs j) (hN : X.N[i]? = some x) (hv : Vis X.env.scope x) (hd : (x == ("__debug__" : Str)) = false) (hcd : (x == ("__classdict__" : Str)) = false)
    (hb : attributeBase (.Name x q) f X.env (eval (.Name x q) X.env) = eval (.Name x q) X.env) :
    PE X (.Attribute (.Name x q) f pos) (LE G W (fun _ S Q _ => match G.xi.map (·.2) with
      | some x => match x.cls with
        | .cls k => P.exc k = true ∧ match x.fs.lookup f with
          | some d => Q d S
          | none => False
        | _ => False
      | none => False)) := by
  refine ⟨fun pins s σ H Q I h => ?_⟩
  obtain ⟨fr, F, S, Qd, Ed, rf, rs, hw, fe, fx⟩ := h
  obtain ⟨y, hy⟩ := hxi
  obtain ⟨a, h1, h2⟩ := rf.ex i y hy
  refine attr_of hb (thn ((pe_var (pos := q) hN hv hd hcd).run pins s σ H (fun v H1 => v = .ref a ∧ H1 = H) I ⟨_, h1, rfl, rfl⟩) fun u s1 hh => ?_)
  obtain ⟨v, H1, I1, rx, e1, e2⟩ := hh
  subst e1 e2
  obtain rfl : u = Value.ref a := rx
  rw [hy] at hw
  have hw : (match y.cls with
        | .cls k => P.exc k = true ∧ match y.fs.lookup f with
          | some d => Qd d S
          | none => False
        | _ => False) := hw
  split at hw
  · rename_i k ek
    obtain ⟨hk, hw⟩ := hw
    split at hw
    · rename_i d ed
      obtain ⟨oe, od, J, hh⟩ := xat_inst hp I1 h2 ek
      rcases hh with ⟨e0, _⟩ | ⟨vs, ob, mA, rfl, r, hl, hr⟩
      · rw [e0] at ed; cases ed
      · have t := Fa.xis.t k hk
        obtain ⟨j, hj, hfj⟩ := hf
        obtain ⟨v, l, rv⟩ := lookup_rps r.1 r.2 ed
        obtain ⟨u, hu, ru⟩ := RelO.some_of (v := v) (o := mA f) (by rw [← l]; exact hr f)
        exact HandSPX.exc_get I1.kIn J t.ga t.gt t.sub (PySem.W.findObj_own t.hd (Fa.xis.fd k j hk hj f hfj) rfl (by rw [hl, hu])) (handed_of ru) ⟨v, H1, I1.tok _, ru, fe _ F S _ H1 (TK.refl _) rs rv hw⟩
    · exact hw.elim
  · exact hw.elim

theorem q_cllx {k i : Nat} {f : Fn} {y : Str} {p p2 pos : Pos} {es : List Expr} {ws : WLs} (Fa : Facts X G P n) (ef : P.fns[k]? = some f) (hxa : f.xa = true) (hgl : f.name ∈ P.gls) (hgd : X.A.guards = some []) (hr : L2H.RoomH (lev n) X.A) (hp : ∀ a o, G.px a o → (a, o) ∈ X.pn ∧ L2H.Hot1 X.A (a, o))
    (hxi : ∃ x, G.xi = some (i, x)) (gl : Gl X f.name) (hd : (f.name == ("__debug__" : Str)) = false) (hN : X.N[i]? = some y) (hv : Vis X.env.scope y) (hd2 : (y == ("__debug__" : Str)) = false) (hc2 : (y == ("__classdict__" : Str)) = false)
    (ha : PA X es (LA G W ws)) (hs2 : es.all noStar = true) :
    PE X (.Call (.Name f.name p) (.Name y p2 :: es) [] pos) (LE G W (fun fr S Q E => ws fr S (fun ds S1 => wpCall P n k ds (G.xi.map (·.2)) S1 Q noX) E)) := by
  refine ⟨fun pins s σ H Q I h => ?_⟩
  obtain ⟨fr, F, S, Qd, Ed, rf, rs, hw, fe, fx⟩ := h
  obtain ⟨x, ex⟩ := hxi
  rw [ex] at hw
  obtain ⟨a, ea, xat⟩ := rf.ex i x ex
  refine wpAny_Call_Name_kw (ld_glob I gl (Fa.gl k f ef hgl) ?_ hd)
  have hv2 := pe_var (pos := p2) hN hv hd2 hc2
  refine PySem.W.callWith_K (h₀ := X.base) I.ok.mod.kin (Fa.kp k) (thn ((pa_cons hv2 ha).run pos pins s σ H (fun vs H2 => ∃ vs' F2 S2 ds, vs = V.ref a :: vs' ∧ TK ⟨F, S, H⟩ ⟨F2, S2, H2⟩ ∧ RS G ⟨F2, S2, H2⟩ ∧ Rps G ⟨F2, S2, H2⟩ ds vs' ∧ wpCall P n k ds (some x) S2 Qd noX) I ?_) fun us s1 ⟨vs, H2, I2, r, q⟩ => ⟨I2.kIn, ?_⟩) rfl (star_any hs2)
  · refine ⟨_, ea, ?_⟩
    exact ⟨fr, F, S, _, Ed, rf, rs, hw, fun ds F2 S2 vs H2 k2 rs2 r2 h2 => ⟨vs, F2, S2, ds, rfl, k2, rs2, r2, h2⟩, fx⟩
  · obtain ⟨vs', F2, S2, ds, rfl, k2, rs2, r2, h2⟩ := q
    obtain ⟨c, oe, dd, e1, hpx, hz, hf, rest⟩ := xat.tk k2.toRK
    obtain ⟨hpn, hot⟩ := hp a oe hpx
    obtain ⟨fd, Fn, hb⟩ := Fa.hot k f ef hxa
    have hl0 : vs'.length + 1 = f.ps.length := by
      cases n with
      | zero => exact h2.elim
      | succ n =>
        unfold wpCall at h2
        rw [ef] at h2
        have h3 := h2.1.2
        rw [hxa] at h3
        rw [← r2.len]
        exact h3
    have P1 := I2.pin (a, oe) (List.mem_append_left _ hpn)
    have hpin : L2H.PinOk X.stack H2 s1 (a, oe) := ⟨P1.1, P1.2.1, fun hm => (List.mem_cons.mp (I2.stkSub a hm)).elim P1.2.2.1 P1.2.2.2.1, P1.2.2.2.2⟩
    have hl : us.length = f.ps.length := by rw [← r.length]; exact hl0
    have b := hb s1 us I2.kIn (by rw [List.append_nil]; exact hl)
    rw [List.append_nil] at b
    refine wpAny_call (codeAny_mono (Fn.go X.A X.stack s1 H2 ⟨us, []⟩ us _ Q (fun _ _ _ => False) (a, oe) hgd hr hot hpin I2.env0 r b
      ⟨f, x, ds, vs', F2, S2, Qd, ⟨ef, hxa⟩, rfl, hl0, rs2, r2, ⟨c, oe, dd, e1, ⟨rfl, rfl⟩, hz, hf, rest⟩, h2, fe.tk k2⟩) fun res s' hq => ?_)
    match res, hq with
    | .error e, hq =>
      obtain ⟨_, _, _, _, _, _, _, _, _, _, _, _, z⟩ := hq
      exact z.elim
    | .ok (.ret u), hq => exact I2.after hq
    | .ok .next, hq => exact hq.elim
    | .ok .brk, hq => exact hq.elim
    | .ok .cont, hq => exact hq.elim
end
end L4

namespace L4
open PySem PySem.Spec PyProof.Rows L2

structure Ct where
  N : List Str
  sc : Scope
  fnl : Str → Bool
  calm : Bool
  xi : Option Nat := none
noncomputable def visC (sc : Scope) (x : Str) : Bool := match sc.names.lookup x with
  | some .local => true
  | some .cell => true
  | some .free => true
  | _ => false
noncomputable def glC (sc : Scope) (x : Str) : Bool := match sc.names.lookup x with
  | some .globalImplicit => true
  | _ => false
noncomputable def locC (c : Ct) (x : Str) : Bool := match c.sc.names.lookup x with
  | some .local => true
  | some .cell => c.fnl x
  | _ => false
noncomputable def nmC (x : Str) : Bool := !(x == ("__debug__" : Str)) && !(x == ("__classdict__" : Str)) && !decide (x = ("__name__" : Str))

noncomputable def freC (c : Ct) (i : Nat) : Bool := match c.xi with
  | some j => !decide (i = j)
  | none => true
noncomputable def constC : Const → D → Bool
  | .int i, d => match d with
    | .int j => decide (i = j)
    | _ => false
  | .str x, d => match d with
    | .str y => decide (x = y) && PyData.strOk x
    | _ => false
  | .bool b, d => match d with
    | .bl b' => b == b'
    | _ => false
  | .none, d => match d with
    | .non => true
    | _ => false
  | _, _ => false
noncomputable def opC : BOp → Operator → Bool
  | .add, .Add => true
  | .sub, .Sub => true
  | .mul, .Mult => true
  | .mod, .Mod => true
  | .fdiv, .FloorDiv => true
  | .pow, .Pow => true
  | _, _ => false
noncomputable def cmpC : COp → CmpOp → Bool
  | .eq, .Eq => true
  | .ne, .NotEq => true
  | .lt, .Lt => true
  | .le, .LtE => true
  | .gt, .Gt => true
  | .ge, .GtE => true
  | .isin, .In => true
  | .notin, .NotIn => true
  | .is_, .Is => true
  | .isnot, .IsNot => true
  | _, _ => false

noncomputable def Bf.nm : Bf → Option Str
  | .len => some "len" | .abs => some "abs" | .int => some "int" | .max => some "max" | .min => some "min" | .divmod => some "divmod" | .repr => some "repr" | .str => some "str" | .all => some "all" | .any => some "any"
  | .list => some "list" | .tuple => some "tuple" | .sum => some "sum" | .isi => some "isinstance" | .dict => some "dict" | .maxl => some "max" | .minl => some "min" | .sorted => some "sorted" | _ => none

noncomputable def Bf.hot : Bf → Bool
  | .len => true | .abs => true | .int => true | .repr => true | .str => true | .tuple => true | .isi => true | _ => false
noncomputable def Bm.nm : Bm → Option Str
  | .append => some "append" | .pop => some "pop" | .popAt => some "pop" | .extend => some "extend" | .reverse => some "reverse" | .clear => some "clear" | .join => some "join" | .remove => some "remove" | .index => some "index" | .insert => some "insert"
  | .get => some "get" | .get1 => some "get" | .dpop => some "pop" | .dclear => some "clear" | .split => some "split" | .partition => some "partition" | .startswith => some "startswith" | .endswith => some "endswith" | .upper => some "upper" | .count => some "count" | .isdigit => some "isdigit"
  | _ => none

noncomputable def Bm.args : Bm → Nat
  | .append => 1 | .popAt => 1 | .extend => 1 | .join => 1 | .remove => 1 | .index => 1 | .insert => 2 | .split => 1 | .partition => 1 | .startswith => 1 | .endswith => 1 | .count => 1 | .get => 2 | .get1 => 1 | .dpop => 1 | _ => 0
noncomputable def tyNames : List (Str × String) := [("int", "int"), ("bool", "bool"), ("str", "str"), ("list", "list"), ("tuple", "tuple"), ("dict", "dict"), ("ValueError", "ValueError")]
mutual
noncomputable def sameD : D → D → Bool
  | .non, y => match y with
    | .non => true
    | _ => false
  | .bl a, y => match y with
    | .bl b => a == b
    | _ => false
  | .int i, y => match y with
    | .int j => decide (i = j)
    | _ => false
  | .str a, y => match y with
    | .str b => decide (a = b)
    | _ => false
  | .tup xs, y => match y with
    | .tup ys => sameDs xs ys
    | _ => false
  | _, _ => false
noncomputable def sameDs : List D → List D → Bool
  | [], ys => ys.isEmpty
  | x :: xs, ys => match ys with
    | y :: ys => sameD x y && sameDs xs ys
    | [] => false
end
mutual
theorem sameD_ok : ∀ {x y : D}, sameD x y = true → x = y
  | .non, y, h => by cases y <;> first | rfl | cases h
  | .bl a, y, h => by
    cases y <;> first | (cases h; done) | skip
    unfold sameD at h
    rw [eq_of_beq h]
  | .int i, y, h => by
    cases y <;> first | (cases h; done) | skip
    unfold sameD at h
    rw [of_decide_eq_true h]
  | .str a, y, h => by
    cases y <;> first | (cases h; done) | skip
    unfold sameD at h
    rw [of_decide_eq_true h]
  | .tup xs, y, h => by
    cases y <;> first | (cases h; done) | skip
    unfold sameD at h
    rw [sameDs_ok h]
  | .ref _, _, h => by cases h
  | .ty _, _, h => by cases h
  | .fn _, _, h => by cases h
  | .cls _, _, h => by cases h
  | .lst _, _, h => by cases h
  | .scr _, _, h => by cases h
  | .dct _ _, _, h => by cases h
  | .dc2 _ _, _, h => by cases h
  | .ins _ _ _, _, h => by cases h
theorem sameDs_ok : ∀ {xs ys : List D}, sameDs xs ys = true → xs = ys
  | [], ys, h => by
    unfold sameDs at h
    rw [List.isEmpty_iff.mp h]
  | x :: xs, ys, h => by
    cases ys with
    | nil => cases h
    | cons y ys =>
      unfold sameDs at h
      rw [Bool.and_eq_true] at h
      rw [sameD_ok h.1, sameDs_ok h.2]
end
noncomputable def ownOf (N : List Str) (own : List Nat) : List (Str × Nat) := own.filterMap fun i => N[i]?.map fun x => (x, i)
noncomputable def isTup : Expr → Bool
  | .Tuple _ _ _ => true
  | _ => false
mutual
noncomputable def chkG (c : Ct) : Tg → Expr → Bool
  | .nm i, e => match e with
    | .Name x _ => decide (c.N[i]? = some x) && locC c x
    | _ => false
  | .tp ts, e => match e with
    | .Tuple xs _ _ => c.calm && chkGs c ts xs
    | _ => false
noncomputable def chkGs (c : Ct) : Tgs → List Expr → Bool
  | .nil, xs => xs.isEmpty
  | .cons t ts, xs => match xs with
    | x :: r => chkG c t x && chkGs c ts r
    | [] => false
end
noncomputable def glnC (c : Ct) (x : Str) : Bool := glC c.sc x && nmC x
section
variable (P : PD)

noncomputable def fnC (k : Nat) (x : Str) : Bool := match P.fns[k]? with
  | some f => decide (f.name = x) && decide (x ∈ P.gls)
  | none => false

noncomputable def kwI (k m : Nat) (nm : List Str) (pt : List Nat) (dv : List D) : Bool := match P.fns[k]? with
  | some f => match f.kw.find? (fun r => decide (r.1 = m) && decide (r.2.1 = nm) && decide (r.2.2.1 = pt)) with
    | some r => sameDs dv r.2.2.2
    | none => false
  | none => false
theorem kwI_ok {k m : Nat} {nm : List Str} {pt : List Nat} {dv : List D} (h : kwI P k m nm pt dv = true) : ∃ f, P.fns[k]? = some f ∧ (m, nm, pt, dv) ∈ f.kw := by
  unfold kwI at h
  split at h
  · rename_i f ef
    refine ⟨f, ef, ?_⟩
    split at h
    · rename_i r er
      have hm := List.mem_of_find?_eq_some er
      have hp := List.find?_some er
      simp only [Bool.and_eq_true, decide_eq_true_eq] at hp
      obtain ⟨⟨h1, h2⟩, h3⟩ := hp
      have h4 := sameDs_ok h
      rw [← h1, ← h2, ← h3, h4]
      exact hm
    · cases h
  · cases h
mutual
noncomputable def chkE (c : Ct) : IE → Expr → Bool
  | .var i, e => match e with
    | .Name x _ => decide (c.N[i]? = some x) && visC c.sc x && nmC x
    | _ => false
  | .cst d, e => match e with
    | .Constant k _ _ => constC k d
    | _ => false
  | .fnv k, e => false
  | .clv k, e => match e with
    | .Name x _ => decide (P.cls[k]? = some x) && glnC c x
    | _ => false
  | .gc j, e => match e with
    | .Name x _ => (match P.gcs[j]? with
      | some (y, _) => decide (y = x)
      | none => false) && glnC c x
    | _ => false
  | .tyv n, e => match e with
    | .Name x _ => decide ((x, n) ∈ tyNames) && decide (x ∈ P.blts) && glC c.sc x
    | _ => false
  | .met m fz o es, e => match e with
    | .Call (.Attribute o' name apos) xs [] cpos => decide (m.nm = some name) && baseC o' && (apos.endLine == cpos.line) && decide (xs.length = m.args) && decide (xs.length < 30) && chkE c o o' && chkEs c es xs
    | _ => false
  | .slc fz o l lo h hi, e => match e with
    | .Subscript o' (.Slice lo' hi' none _) _ => chkE c o o' && (match lo' with
        | some x => l && chkE c lo x
        | none => !l) && (match hi' with
        | some x => h && chkE c hi x
        | none => !h)
    | _ => false
  | .rvs fz o, e => false
  | .gidx j a, e => match e with
    | .Call (.Attribute (.Name x _) name apos) [y] [] cpos => decide (name = "index") && (match P.gcs[j]? with
      | some (z, _) => decide (z = x)
      | none => false) && glnC c x && (apos.endLine == cpos.line) && noStar y && chkE c a y
    | _ => false
  | .chain o1 o2 a b d, e => match e with
    | .Compare l [op1, op2] [r1, r2] _ => cmpC o1 op1 && cmpC o2 op2 && !behindInMarks op2 r2 && chkE c a l && chkE c b r1 && chkE c d r2
    | _ => false
  | .bin o fz a b, e => match e with
    | .BinOp l op r _ => opC o op && chkE c a l && chkE c b r
    | _ => false
  | .neg a, e => match e with
    | .UnaryOp op x _ => match op with
      | .USub => chkE c a x
      | _ => false
    | _ => false
  | .nt a, e => match e with
    | .UnaryOp op x _ => match op with
      | .Not => chkE c a x
      | _ => false
    | _ => false
  | .cmp o a b, e => match e with
    | .Compare l [op] [r] _ => cmpC o op && !behindInMarks op r && chkE c a l && chkE c b r
    | _ => false
  | .conj es, e => match e with
    | .BoolOp op xs _ => match op with
      | .And => chkEs c es xs
      | _ => false
    | _ => false
  | .disj es, e => match e with
    | .BoolOp op xs _ => match op with
      | .Or => chkEs c es xs
      | _ => false
    | _ => false
  | .ite t a b, e => match e with
    | .IfExp t' a' b' _ => (chkT c t t' || (plainTest t' && chkE c t t')) && chkE c a a' && chkE c b b'
    | _ => false
  | .tup es, e => match e with
    | .Tuple xs _ _ => chkEs c es xs
    | _ => false
  | .lst fz es, e => match e with
    | .List xs _ => chkEs c es xs
    | _ => false
  | .dsp t2 es, e => match e with
    | .Dict ks vs _ => (match es with
      | .nil => ks.isEmpty && vs.isEmpty
      | .cons _ _ => !t2 && decide (ks.length = vs.length) && decide (ks.length ≤ 15) && ks.all (·.isSome) && !ks.isEmpty && chkD c es ks vs)
    | _ => false
  | .idx a i, e => match e with
    | .Subscript a' i' _ => chkE c a a' && chkE c i i' && plainIx i'
    | _ => false
  | .fld o x, e => match e with
    | .Attribute o' y _ => decide (x = y) && baseC o' && chkE c o o'
    | _ => false
  | .call k es, e => match e with
    | .Call (.Name x _) xs [] _ => fnC P k x && glnC c x && c.calm && chkEs c es xs
    | _ => false
  | .callk k nm pt dv es ks, e => false
  | .callv i es, e => false
  | .make k nm pt dv es ks, e => match e with
    | .Call (.Name x _) xs kws _ => decide (P.cls[k]? = some x) && glnC c x && c.calm && (match P.ini k with
      | some j => kwI P j (xs.length + 1) nm (0 :: pt.map (· + 1)) dv
      | none => false) && decide (kws.map (·.arg) = nm.map some) && chkEs c es xs && chkEs c ks (kws.map (·.value))
    | _ => false
  | .mcl x nm pt dv o es ks, e => match e with
    | .Call (.Attribute o' y apos) xs kws cpos => decide (x = y) && baseC o' && (apos.endLine == cpos.line) && decide (xs.length + kws.length < 28) && c.calm && ((List.range P.ncl).all fun k => match P.mth k x with
      | some j => kwI P j (xs.length + 1) nm (0 :: pt.map (· + 1)) dv
      | none => true) && decide (kws.map (·.arg) = nm.map some) && chkE c o o' && chkEs c es xs && chkEs c ks (kws.map (·.value))
    | _ => false
  | .blt f fz es, e => (match e with
    | .Call (.Name x _) xs [] _ => decide (f.nm = some x) && decide (x ∈ P.blts) && glC c.sc x && (c.calm || f.hot) && chkEs c es xs && !xs.isEmpty
    | _ => false) || (match es with
    | .cons a .nil => (match spA2 f e with
      | some b => (spN2 f).all (fun x => decide (x ∈ P.blts) && glC c.sc x) && c.calm && noStar b && chkE c a b
      | none => false)
    | _ => false)
  | .comp fz tg it ts e' own, e => match e with
    | .ListComp elt [⟨tgE, itE, ifs, 0⟩] scope _ => c.calm && blkC c.N c.sc scope (ownOf c.N own) && decide ((ownOf c.N own).map (·.2) = own) && (slotG tg).all (fun i => own.contains i) && own.all (freC c) && noSet itE && chkI c it itE tgE &&
        chkG ⟨c.N, relS scope c.sc, fun x => scope.names.lookup x == some .cell, true, c.xi⟩ tg tgE && chkTs ⟨c.N, relS scope c.sc, fun x => scope.names.lookup x == some .cell, true, c.xi⟩ ts ifs && chkE ⟨c.N, relS scope c.sc, fun x => scope.names.lookup x == some .cell, true, c.xi⟩ e' elt
    | _ => false
  | .fst es, e => false
  | .frz a, e => chkE c a e
  | .frzo a, e => false
  | .xis a, e => match e with
    | .Call (.Name f _) [.Name y _, ce] [] _ => decide (f = "isinstance") && decide (("isinstance" : Str) ∈ P.blts) && glC c.sc f && (match c.xi with
      | some i => decide (c.N[i]? = some y)
      | none => false) && visC c.sc y && nmC y && noStar ce && chkE c a ce
    | _ => false
  | .xfd f, e => match e with
    | .Attribute (.Name y _) g _ => decide (g = f) && (match c.xi with
      | some i => decide (c.N[i]? = some y)
      | none => false) && visC c.sc y && nmC y && (List.range P.cls.length).any (fun j => P.exc j && (P.xfs j).contains f)
    | _ => false
  | .cllx k es, e => match e with
    | .Call (.Name x _) (.Name y _ :: xs) [] _ => fnC P k x && glnC c x && !c.calm && (match P.fns[k]? with
      | some f => f.xa
      | none => false) && (match c.xi with
      | some i => decide (c.N[i]? = some y)
      | none => false) && visC c.sc y && nmC y && chkEs c es xs
    | _ => false
  | .ocmp neg a b, e => false
  | .oeq a b, e => false
  | .osp r a, e => false
noncomputable def chkT (c : Ct) : IE → Expr → Bool
  | .nt a, e => match e with
    | .UnaryOp op x _ => match op with
      | .Not => chkT c a x || (plainTest x && chkE c a x)
      | _ => false
    | _ => false
  | .cmp o a b, e => match e with
    | .Compare l [op] [r] _ => cmpC o op && !behindInMarks op r && chkE c a l && chkE c b r
    | _ => false
  | .oeq a b, e => false
  | .ocmp neg a b, e => false
  | .chain o1 o2 a b d, e => match e with
    | .Compare l [op1, op2] [r1, r2] _ => cmpC o1 op1 && cmpC o2 op2 && !behindInMarks op2 r2 && chkE c a l && chkE c b r1 && chkE c d r2
    | _ => false
  | .conj es, e => match e with
    | .BoolOp op xs _ => match op with
      | .And => chkTl c es xs
      | _ => false
    | _ => false
  | .disj es, e => match e with
    | .BoolOp op xs _ => match op with
      | .Or => chkTl c es xs
      | _ => false
    | _ => false
  | _, _ => false
noncomputable def chkEs (c : Ct) : IEs → List Expr → Bool
  | .nil, xs => xs.isEmpty
  | .cons e es, xs => match xs with
    | x :: r => noStar x && chkE c e x && chkEs c es r
    | [] => false
noncomputable def chkD (c : Ct) : IEs → List (Option Expr) → List Expr → Bool
  | .nil, ks, vs => ks.isEmpty && vs.isEmpty
  | .cons e es, ks, vs => match es with
    | .cons e2 es2 => match ks, vs with
      | some k :: kr, v :: vr => chkE c e k && chkE c e2 v && chkD c es2 kr vr
      | _, _ => false
    | .nil => false
noncomputable def chkTl (c : Ct) : IEs → List Expr → Bool
  | .nil, xs => xs.isEmpty
  | .cons e es, xs => match xs with
    | x :: r => (chkT c e x || (plainTest x && chkE c e x)) && chkTl c es r
    | [] => false
noncomputable def chkTs (c : Ct) : IEs → List Expr → Bool
  | .nil, xs => xs.isEmpty
  | .cons e es, xs => match xs, es with
    | [x], .nil => chkT c e x || (plainTest x && chkE c e x)
    | _, _ => false
noncomputable def chkF (c : Ct) : IEs → List Expr → Bool
  | .nil, xs => xs.isEmpty
  | .cons e es, xs => match xs with
    | x :: r => (match x with
      | .FormattedValue v k fs _ => fs.isNone && ((decide (k = -1) && chkE c e v) || (decide (k = 114) && c.calm && (match e with
        | .blt f _ (.cons a .nil) => decide (f = .repr) && chkE c a v
        | _ => false)))
      | .Constant (.str y) _ _ => (match e with
        | .cst (.str z) => decide (z = y) && PyData.strOk y
        | _ => false)
      | _ => false) && chkF c es r
    | [] => false
noncomputable def chkI (c : Ct) : II → Expr → Expr → Bool
  | .rng1 e, x, tg => match x with
    | .Call (.Name r _) [a] [] _ => decide (r = "range") && decide (("range" : Str) ∈ P.blts) && glC c.sc r && noStar a && chkE c e a
    | _ => false
  | .rng2 e e2, x, tg => false
  | .rng3 _ _ _, _, _ => false
  | .seq e, x, _ => chkE c e x
  | .txt e, x, _ => chkE c e x
  | .enm e, x, tg => match x with
    | .Call (.Name r _) [a] [] _ => isTup tg && decide (r = "enumerate") && decide (("enumerate" : Str) ∈ P.blts) && glC c.sc r && noStar a && chkE c e a
    | _ => false
  | .zip e e2, x, tg => false
  | .rev e, x, tg => false
  | .dct w e, x, tg => false
  | .lck _ _, _, _ => false
end
end
end L4

namespace L4
open PySem PySem.Spec PyProof.Rows L2

structure Good (X : Cx) (G : Gx) (P : PD) (n : Nat) (c : Ct) : Prop where
  fx : Facts X G P n
  N : X.N = c.N
  nd : X.N.Nodup
  sc : X.env.scope = c.sc
  fn : ∀ x, c.fnl x = true → X.fn x = true
  gd : X.A.guards = some []
  un : X.A.units + 65 < cLine
  calm : c.calm = true → X.calm = true
  room : c.calm = true → Room (lev n + 1) X.A
  xi : ∀ i x, G.xi = some (i, x) → c.xi = some i
  xg : ∀ i, c.xi = some i → ∃ x, G.xi = some (i, x)
  px : ∀ a o, G.px a o → (a, o) ∈ X.pn ∧ c.calm = false
  rh : L2H.RoomH (lev n + 1) X.A
  ht : ∀ a o, G.px a o → L2H.Hot1 X.A (a, o)
theorem Good.fre {X : Cx} {G : Gx} {P : PD} {n : Nat} {c : Ct} (g : Good X G P n c) {i : Nat} (h : freC c i = true) : G.fre i := by
  intro x e
  have := g.xi i x e
  unfold freC at h
  rw [this] at h
  simp at h
theorem Good.blk {X : Cx} {G : Gx} {P : PD} {n : Nat} {c : Ct} (g : Good X G P n c) (hc : c.calm = true) (s : Shared) (H : Hp) (scope : Scope) (C : Addr) (cl : List (Str × Addr)) (fp : List Addr) :
    Good (X.blk s H scope (compEnvC scope cl C X.env) fp) G P n ⟨c.N, relS scope c.sc, fun x => scope.names.lookup x == some .cell, true, c.xi⟩ :=
  ⟨g.fx.other rfl rfl rfl rfl rfl, g.N, g.nd, by show relabel scope X.env = _; rw [← g.sc]; rfl, fun x h => h, g.gd, g.un, fun _ => g.calm hc, fun _ => g.room hc, g.xi, g.xg, fun a o z => absurd hc (by rw [(g.px a o z).2]; decide), g.rh, g.ht⟩
section
variable {X : Cx} {G : Gx} {P : PD} {n : Nat} {c : Ct}
theorem vis_ok (g : Good X G P n c) {x : Str} (h : visC c.sc x = true) : Vis X.env.scope x := by
  rw [g.sc]
  unfold visC at h
  split at h
  · rename_i e; exact .inl e
  · rename_i e; exact .inr (.inl e)
  · rename_i e; exact .inr (.inr e)
  · cases h
theorem gl_ok (g : Good X G P n c) {x : Str} (h : glC c.sc x = true) : Gl X x := by
  unfold Gl Env.kindOf
  rw [g.sc]
  unfold glC at h
  split at h
  · rename_i e; exact e
  · cases h
theorem loc_ok (g : Good X G P n c) {x : Str} (h : locC c x = true) : Loc X.env.scope x ∧ (X.fn x = true ∨ X.env.scope.names.lookup x = some .local) := by
  rw [g.sc]
  unfold locC at h
  split at h
  · rename_i e; exact ⟨.inl e, .inr e⟩
  · rename_i e; exact ⟨.inr e, .inl (g.fn x h)⟩
  · cases h
theorem nm_ok {x : Str} (h : nmC x = true) : (x == ("__debug__" : Str)) = false ∧ (x == ("__classdict__" : Str)) = false ∧ x ≠ "__name__" := by
  unfold nmC at h
  simp only [Bool.and_eq_true, Bool.not_eq_true', decide_eq_false_iff_not] at h
  exact ⟨h.1.1, h.1.2, h.2⟩
theorem gln_ok (g : Good X G P n c) {x : Str} (h : glnC c x = true) : Gl X x ∧ (x == ("__debug__" : Str)) = false := by
  unfold glnC at h
  rw [Bool.and_eq_true] at h
  exact ⟨gl_ok g h.1, (nm_ok h.2).1⟩
end

theorem meth_eq {o : Expr} {x : Str} {apos pos : Pos} {es : List Expr} {kws : List Keyword} {nm : List Str} {env : Env} (hb : baseC o = true) (hs : es.all noStar = true) (hn : kws.map (·.arg) = nm.map some) (hl : (apos.endLine == pos.line) = true) (h30 : es.length + kws.length < 28) :
    ∃ pl : Sem Bool, eval (.Call (.Attribute o x apos) es kws pos) env = (do
      let ov ← eval o env
      standAt apos.atName
      let (f, first) ← holding [ov] (getMethod ov x pl)
      callWith pos f first (backTo pos (starEach es env)) (backToKw pos (keywordEach kws env))) := by
  obtain ⟨k1, k2, k3⟩ := kw_names (pos := pos) (env := env) hn
  have h1 : ∀ es : List Expr, es.all noStar = true → (backTo pos (starEach es env)).all (fun x => !x.1) = true := by
    intro es
    induction es with
    | nil => intro _; rfl
    | cons e es ih =>
      intro h
      rw [List.all_cons, Bool.and_eq_true] at h
      rw [star_cons h.1]
      exact ih h.2
  have few : methodCallForm (es.length + kws.length) (backTo pos (starEach es env)) (backToKw pos (keywordEach kws env)) = true := by
    unfold methodCallForm
    rw [h1 es hs, k1]
    simp only [Bool.true_and, decide_eq_true_eq]
    split <;> omega
  refine ⟨do return (← importBound o env).getD true, ?_⟩
  show (do
    let ov ← attributeBase o x env (eval o env)
    standAt apos.atName
    methodCall o x apos pos env ov (es.length + kws.length) (backTo pos (starEach es env)) (backToKw pos (keywordEach kws env))) = _
  rw [base_ok hb]
  unfold methodCall calleeOf methodCallPos
  rw [few, hl]
  rfl
section
variable {G : Gx} {P : PD} {n : Nat}
theorem Good.un64 {X : Cx} {c : Ct} (g : Good X G P n c) : X.A.units + 64 < cLine := by have := g.un; omega
theorem Good.un1 {X : Cx} {c : Ct} (g : Good X G P n c) : X.A.units + 1 < cLine := by have := g.un; omega
theorem sOp {X : Cx} {c : Ct} (g : Good X G P n c) {o : BOp} {op : Operator} {fz : Bool} (h : opC o op = true) : OpR X (binaryOp op) (L2o G (wpBin o fz)) := by
  cases o <;> cases op <;> first | (cases h; done) | exact sb_add g.fx.K | exact sb_sub | exact sb_mul g.fx.K | exact sb_mod | exact sb_fdiv | exact sb_pow
theorem sCmp {X : Cx} {c : Ct} (g : Good X G P n c) {o : COp} {op : CmpOp} (h : cmpC o op = true) : OpR X (compareOp op) (L2o G (wpCmp o)) := by
  cases o <;> cases op <;> first | (cases h; done) | exact sb_eq g.fx.K g.un64 | exact sb_ne g.fx.K g.un64 | exact sb_lt | exact sb_le | exact sb_gt | exact sb_ge | exact sb_in g.fx.K g.un64 | exact sb_notin g.fx.K g.un64 | exact sb_is | exact sb_isnot
theorem sM2 {X : Cx} {W : WX} {c : Ct} {m : Bm} {fz : Bool} {name : Str} {o e : Expr} {es : List Expr} {wo : WEx} {ws : WLs} {apos cpos : Pos} (g : Good X G P n c) (hm : m.nm = some name) (hd : m.ty ≠ "dict") (h1 : 1 ≤ m.args) (ho : PE X o (LE G W wo)) (ha : PA X (e :: es) (LA G W ws)) (hb : baseC o = true) (hl : (apos.endLine == cpos.line) = true) (hn : (e :: es).length < 30) (hs : noStar e = true) (hs2 : es.all noStar = true) :
    PE X (.Call (.Attribute o name apos) (e :: es) [] cpos) (LE G W (fun fr S Q E => wo fr S (fun x S1 => tyD S1 x = some m.ty ∧ ws fr S1 (fun ds S2 => wpM m fz x ds S2 Q) E) E)) := by
  cases m <;> first | (cases hm; done) | exact absurd rfl hd | (exact absurd h1 (by decide)) | skip
  all_goals cases hm
  · exact q_met g.fx.K PySem.F.plainAttrs_list PySem.F.slot_list_append PySem.F.type_list_append sM_append (.inl rfl) ho ha hb hl hn hs hs2
  · exact q_met g.fx.K PySem.F.plainAttrs_list PySem.F.slot_list_pop PySem.F.type_list_pop sM_popAt (.inl rfl) ho ha hb hl hn hs hs2
  · exact q_met g.fx.K PySem.F.plainAttrs_list PySem.F.slot_list_extend PySem.F.type_list_extend sM_extend (.inl rfl) ho ha hb hl hn hs hs2
  · exact q_met g.fx.K PySem.F.plainAttrs_str PySem.F.slot_str_join PySem.F.type_str_join (sM_join g.fx.K) (.inr rfl) ho ha hb hl hn hs hs2
  · exact q_met g.fx.K PySem.F.plainAttrs_list PySem.F.slot_list_remove PySem.F.type_list_remove sM_remove (.inl rfl) ho ha hb hl hn hs hs2
  · exact q_met g.fx.K PySem.F.plainAttrs_list PySem.F.slot_list_index PySem.F.type_list_index (sM_index g.fx.K) (.inl rfl) ho ha hb hl hn hs hs2
  · exact q_met g.fx.K PySem.F.plainAttrs_list PySem.F.slot_list_insert PySem.F.type_list_insert sM_insert (.inl rfl) ho ha hb hl hn hs hs2
  · exact q_met g.fx.K PySem.F.plainAttrs_str PySem.F.slot_str_split PySem.F.type_str_split sM_split (.inr rfl) ho ha hb hl hn hs hs2
  · exact q_met g.fx.K PySem.F.plainAttrs_str PySem.F.slot_str_partition PySem.F.type_str_partition sM_partition (.inr rfl) ho ha hb hl hn hs hs2
  · exact q_met g.fx.K PySem.F.plainAttrs_str PySem.F.slot_str_startswith PySem.F.type_str_startswith sM_startswith (.inr rfl) ho ha hb hl hn hs hs2
  · exact q_met g.fx.K PySem.F.plainAttrs_str PySem.F.slot_str_endswith PySem.F.type_str_endswith sM_endswith (.inr rfl) ho ha hb hl hn hs hs2
  · exact q_met g.fx.K PySem.F.plainAttrs_str PySem.F.slot_str_count PySem.F.type_str_count sM_count (.inr rfl) ho ha hb hl hn hs hs2
theorem sM0 {X : Cx} {W : WX} {c : Ct} {m : Bm} {fz : Bool} {name : Str} {o : Expr} {wo : WEx} {apos cpos : Pos} (g : Good X G P n c) (hm : m.nm = some name) (h0 : m.args = 0) (ho : PE X o (LE G W wo)) (hb : baseC o = true) (hl : (apos.endLine == cpos.line) = true) :
    PE X (.Call (.Attribute o name apos) [] [] cpos) (LE G W (fun fr S Q E => wo fr S (fun x S1 => tyD S1 x = some m.ty ∧ wpM m fz x [] S1 Q) E)) := by
  cases m <;> first | (cases hm; done) | (cases h0; done) | skip
  all_goals cases hm
  · exact q_met0 g.fx.K PySem.F.plainAttrs_list PySem.F.slot_list_pop PySem.F.type_list_pop sM_pop (.inl rfl) ho hb hl
  · exact q_met0 g.fx.K PySem.F.plainAttrs_list PySem.F.slot_list_reverse PySem.F.type_list_reverse sM_reverse (.inl rfl) ho hb hl
  · exact q_met0 g.fx.K PySem.F.plainAttrs_list PySem.F.slot_list_clear PySem.F.type_list_clear sM_clear (.inl rfl) ho hb hl
  · exact q_dclear ho hb hl
  · exact q_met0 g.fx.K PySem.F.plainAttrs_str PySem.F.slot_str_upper PySem.F.type_str_upper sM_upper (.inr rfl) ho hb hl
  · exact q_met0 g.fx.K PySem.F.plainAttrs_str PySem.F.slot_str_isdigit PySem.F.type_str_isdigit sM_isdigit (.inr rfl) ho hb hl
theorem ty_ok {x : Str} {n : String} (h : (x, n) ∈ tyNames) : bootBuiltins x = some (.type n) ∧ x ≠ "__name__" ∧ (x == ("__debug__" : Str)) = false := by
  have := (by decide +kernel : ∀ q ∈ tyNames, bootBuiltins q.1 = some (.type q.2) ∧ q.1 ≠ ("__name__" : Str) ∧ (q.1 == ("__debug__" : Str)) = false)
  exact this (x, n) h
theorem sConst {X : Cx} {W : WX} {k : Const} {d : D} {j : Nat} {p : Pos} (h : constC k d = true) : PE X (.Constant k j p) (LE G W (fun _ S Q _ => Q d S)) := by
  cases k <;> unfold constC at h <;> dsimp only at h <;> first | (cases h; done) | skip
  · split at h
    · exact q_const pe_non fun _ => Rp.non.mpr rfl
    · cases h
  · split at h
    · cases eq_of_beq h
      exact q_const pe_bl fun _ => Rp.bl.mpr rfl
    · cases h
  · split at h
    · cases of_decide_eq_true h
      exact q_const pe_int fun _ => Rp.int.mpr rfl
    · cases h
  · split at h
    · rw [Bool.and_eq_true] at h
      cases of_decide_eq_true h.1
      exact q_const pe_str fun _ => Rp.str.mpr ⟨rfl, h.2⟩
    · cases h
theorem chkEs_star {c : Ct} : ∀ {es : IEs} {xs : List Expr}, chkEs P c es xs = true → xs.all noStar = true
  | .nil, xs, h => by
    unfold chkEs at h
    rw [List.isEmpty_iff.mp h]
    rfl
  | .cons e es, xs, h => by
    unfold chkEs at h
    cases xs with
    | nil => cases h
    | cons x r =>
      dsimp only at h
      simp only [Bool.and_eq_true] at h
      rw [List.all_cons, h.1.1, chkEs_star h.2]
      rfl
theorem chkEs_len {c : Ct} : ∀ {es : IEs} {xs : List Expr}, chkEs P c es xs = true → es.len = xs.length
  | .nil, xs, h => by
    unfold chkEs at h
    rw [List.isEmpty_iff.mp h]
    rfl
  | .cons e es, xs, h => by
    unfold chkEs at h
    cases xs with
    | nil => cases h
    | cons x r =>
      dsimp only at h
      simp only [Bool.and_eq_true] at h
      simp only [IEs.len, List.length_cons, chkEs_len h.2]
theorem fn_ok {k : Nat} {x : Str} (h : fnC P k x = true) : ∃ f, P.fns[k]? = some f ∧ f.name = x ∧ f.name ∈ P.gls := by
  unfold fnC at h
  split at h
  · rename_i f ef
    simp only [Bool.and_eq_true, decide_eq_true_eq] at h
    exact ⟨f, ef, h.1, by rw [h.1]; exact h.2⟩
  · cases h

theorem sB {X : Cx} {W : WX} {c : Ct} {f : Bf} {fz : Bool} {x : Str} {p pos : Pos} {e : Expr} {es : List Expr} {ws : WLs} (g : Good X G P n c) (hc : (c.calm || f.hot) = true) (hx : f.nm = some x) (hm : x ∈ P.blts) (hg : glC c.sc x = true) (ha : PA X (e :: es) (LA G W ws)) (hs : noStar e = true) (hs2 : es.all noStar = true) :
    PE X (.Call (.Name x p) (e :: es) [] pos) (LE G W (fun fr S Q E => ws fr S (fun ds S1 => wpB P.toPg f fz ds S1 Q) E)) := by
  have gl := gl_ok g hg
  have m0 := g.fx.blt x hm
  cases f <;> first | (cases hx; done) | skip
  all_goals cases hx
  · exact q_bltn (id := "len") (sB_len g.fx.K) gl m0 (by decide +kernel) ha hs hs2 (by decide +kernel) (by decide +kernel)
  · exact q_bltn (id := "abs") sB_abs gl m0 (by decide +kernel) ha hs hs2 (by decide +kernel) (by decide +kernel)
  · exact q_bltt (id := "int") sB_int gl m0 (by decide +kernel) ha hs hs2 (by decide +kernel) (by decide +kernel)
  · exact q_bltn (id := "max") (sB_max (g.calm (by rw [show Bf.hot _ = false from rfl, Bool.or_false] at hc; exact hc))) gl m0 (by decide +kernel) ha hs hs2 (by decide +kernel) (by decide +kernel)
  · exact q_bltn (id := "min") (sB_min (g.calm (by rw [show Bf.hot _ = false from rfl, Bool.or_false] at hc; exact hc))) gl m0 (by decide +kernel) ha hs hs2 (by decide +kernel) (by decide +kernel)
  · exact q_bltn (id := "divmod") sB_divmod gl m0 (by decide +kernel) ha hs hs2 (by decide +kernel) (by decide +kernel)
  · exact q_bltn (id := "repr") (sB_repr g.fx.K g.fx.sm g.gd g.un64) gl m0 (by decide +kernel) ha hs hs2 (by decide +kernel) (by decide +kernel)
  · exact q_bltt (id := "str") sB_str gl m0 (by decide +kernel) ha hs hs2 (by decide +kernel) (by decide +kernel)
  · exact q_bltn (id := "all") (sB_all (g.calm (by rw [show Bf.hot _ = false from rfl, Bool.or_false] at hc; exact hc))) gl m0 (by decide +kernel) ha hs hs2 (by decide +kernel) (by decide +kernel)
  · exact q_bltn (id := "any") (sB_any (g.calm (by rw [show Bf.hot _ = false from rfl, Bool.or_false] at hc; exact hc))) gl m0 (by decide +kernel) ha hs hs2 (by decide +kernel) (by decide +kernel)
  · exact q_bltt (id := "list") (sB_list g.fx.K (g.calm (by rw [show Bf.hot _ = false from rfl, Bool.or_false] at hc; exact hc))) gl m0 (by decide +kernel) ha hs hs2 (by decide +kernel) (by decide +kernel)
  · exact q_bltt (id := "tuple") (sB_tuple g.fx.K) gl m0 (by decide +kernel) ha hs hs2 (by decide +kernel) (by decide +kernel)
  · exact q_bltn (id := "sum") (sB_sum (g.calm (by rw [show Bf.hot _ = false from rfl, Bool.or_false] at hc; exact hc))) gl m0 (by decide +kernel) ha hs hs2 (by decide +kernel) (by decide +kernel)
  · exact q_bltn (id := "isinstance") (sB_isi g.fx.K g.fx.isi) gl m0 (by decide +kernel) ha hs hs2 (by decide +kernel) (by decide +kernel)
  · exact q_bltt (id := "dict") (sB_dict g.fx.K (g.calm (by rw [show Bf.hot _ = false from rfl, Bool.or_false] at hc; exact hc))) gl m0 (by decide +kernel) ha hs hs2 (by decide +kernel) (by decide +kernel)
  · exact q_bltn (id := "sorted") (sB_sorted (g.calm (by rw [show Bf.hot _ = false from rfl, Bool.or_false] at hc; exact hc))) gl m0 (by decide +kernel) ha hs hs2 (by decide +kernel) (by decide +kernel)
  · exact q_bltn (id := "min") (sB_minl g.un64 (g.calm (by rw [show Bf.hot _ = false from rfl, Bool.or_false] at hc; exact hc))) gl m0 (by decide +kernel) ha hs hs2 (by decide +kernel) (by decide +kernel)
  · exact q_bltn (id := "max") (sB_maxl g.fx.K (g.calm (by rw [show Bf.hot _ = false from rfl, Bool.or_false] at hc; exact hc))) gl m0 (by decide +kernel) ha hs hs2 (by decide +kernel) (by decide +kernel)
mutual
theorem sG {X : Cx} {c : Ct} (g : Good X G P n c) : ∀ (t : Tg) (x : Expr), chkG c t x = true → PG X x (tgT G.K t)
  | .nm i, x, h => by
    unfold chkG at h
    split at h
    · simp only [Bool.and_eq_true, decide_eq_true_eq] at h
      obtain ⟨l1, l2⟩ := loc_ok g h.2
      exact pg_name g.nd (by rw [g.N]; exact h.1) l1 l2
    · cases h
  | .tp ts, x, h => by
    unfold chkG at h
    split at h
    · rename_i xs k p
      simp only [Bool.and_eq_true] at h
      obtain ⟨h1, h2, h3⟩ := sGs g ts xs h.2
      have q := pg_tup (X := X) (n := ts.len) (k := k) (pos := p) (g.calm h.1) h1 h2 h3
      rw [g.fx.K] at q
      exact q
    · cases h
theorem sGs {X : Cx} {c : Ct} (g : Good X G P n c) : ∀ (ts : Tgs) (xs : List Expr), chkGs c ts xs = true → PGs X xs (tgTs G.K ts) ∧ (assignEach xs X.env).length = ts.len ∧ (assignEach xs X.env).findIdx? (·.1) = none
  | .nil, xs, h => by
    unfold chkGs at h
    rw [List.isEmpty_iff.mp h]
    exact ⟨pgs_nil, rfl, rfl⟩
  | .cons t ts, xs, h => by
    unfold chkGs at h
    cases xs with
    | nil => cases h
    | cons x r =>
      dsimp only at h
      simp only [Bool.and_eq_true] at h
      obtain ⟨h1, h2, h3⟩ := sGs g ts r h.2
      have hx := sG g t x h.1
      have ns : assignEach (x :: r) X.env = (false, assign x X.env) :: assignEach r X.env := by
        have : ∀ y p, x ≠ .Starred y p := by
          intro y p e
          subst e
          cases t <;> (unfold chkG at h; exact absurd h.1 (by simp))
        cases x <;> first | rfl | exact absurd rfl (this _ _)
      rw [ns]
      refine ⟨pgs_cons hx h1 (by rw [ns]; rfl), by simp [h2, Tgs.len], ?_⟩
      rw [List.findIdx?_cons]
      simp [h3]
end
end
end L4

namespace L4
open PySem PySem.Spec PyProof.Rows L2
noncomputable abbrev wE (G : Gx) (P : PD) (n : Nat) : IE → WEx := wpE (wpCall P n) P.toPg (G.xi.map (·.2))
noncomputable abbrev wEs (G : Gx) (P : PD) (n : Nat) : IEs → WLs := wpEs (wpCall P n) P.toPg (G.xi.map (·.2))
section
variable {G : Gx} {P : PD} {n : Nat}
mutual
theorem sE : ∀ (e : IE) (X : Cx) (c : Ct) (W : WX) (x : Expr), Good X G P n c → L2N.Takes X W → chkE P c e x = true → PE X x (LE G W (wE G P n e))
  | .var i, X, c, W, x, g, tk, h => by
    unfold chkE at h
    split at h
    · simp only [Bool.and_eq_true, decide_eq_true_eq] at h
      obtain ⟨h1, h2, h3⟩ := nm_ok h.2
      exact q_var (by rw [g.N]; exact h.1.1) (vis_ok g h.1.2) h1 h2
    · cases h
  | .cst d, X, c, W, x, g, tk, h => by
    unfold chkE at h
    split at h
    · exact sConst h
    · cases h
  | .fnv k, X, c, W, x, g, tk, h => by unfold chkE at h; cases h
  | .clv k, X, c, W, x, g, tk, h => by
    unfold chkE at h
    split at h
    · rw [Bool.and_eq_true, decide_eq_true_eq] at h
      obtain ⟨gl, hd⟩ := gln_ok g h.2
      exact q_const (pe_glob (v := V.ref (G.ca k)) gl (g.fx.cls k _ h.1).gl rfl hd) fun _ => Rp.cls.mpr rfl
    · cases h
  | .gc j, X, c, W, x, g, tk, h => by
    unfold chkE at h
    split at h
    · rw [Bool.and_eq_true] at h
      obtain ⟨h1, h2⟩ := h
      obtain ⟨gl, hd⟩ := gln_ok g h2
      split at h1
      · rename_i y d ej
        cases of_decide_eq_true h1
        exact q_gc g.fx ej gl hd
      · cases h1
    · cases h
  | .tyv m, X, c, W, x, g, tk, h => by
    unfold chkE at h
    split at h
    · rename_i y p
      simp only [Bool.and_eq_true, decide_eq_true_eq] at h
      obtain ⟨⟨h1, h2⟩, h3⟩ := h
      obtain ⟨k1, k2, k3⟩ := ty_ok h1
      exact q_const (pe_bltn (v := V.ty m) (gl_ok g h3) (g.fx.blt y h2) k1 rfl k2 k3) fun _ => Rp.ty.mpr rfl
    · cases h
  | .met m fz o es, X, c, W, x, g, tk, h => by
    unfold chkE at h
    split at h
    · rename_i o' name apos ys cpos
      simp only [Bool.and_eq_true, decide_eq_true_eq] at h
      obtain ⟨⟨⟨⟨⟨⟨hm, hb⟩, hl⟩, hlen⟩, hn⟩, ho⟩, hes⟩ := h
      have q := sE o X c W o' g tk ho
      have hst := chkEs_star hes
      by_cases hd : m.ty = "dict"
      · cases m <;> first | (cases hm; done) | (exact absurd hd (by decide)) | skip
        all_goals cases hm
        · -- get with a default
          match ys, hlen, hes with
          | [a, b], _, hes =>
            match es, hes with
            | .cons e1 es1, hes =>
              unfold chkEs at hes
              simp only [Bool.and_eq_true] at hes
              match es1, hes.2 with
              | .cons e2 es2, hes2 =>
                unfold chkEs at hes2
                simp only [Bool.and_eq_true] at hes2
                match es2, hes2.2 with
                | .nil, _ => exact q_get2 (fz := fz) g.un1 q (sE e1 X c W a g tk hes.1.2) (sE e2 X c W b g tk hes2.1.2) hb hl hes.1.1 hes2.1.1
                | .cons e3 es3, z => unfold chkEs at z; cases z
              | .nil, z => unfold chkEs at z; cases z
            | .nil, z => unfold chkEs at z; cases z
        · match ys, hlen, hes with
          | [a], _, hes =>
            match es, hes with
            | .cons e1 es1, hes =>
              unfold chkEs at hes
              simp only [Bool.and_eq_true] at hes
              match es1, hes.2 with
              | .nil, _ => exact q_get1 (fz := fz) g.un1 q (sE e1 X c W a g tk hes.1.2) hb hl hes.1.1
              | .cons e2 es2, z => unfold chkEs at z; cases z
            | .nil, z => unfold chkEs at z; cases z
        · match ys, hlen, hes with
          | [a], _, hes =>
            match es, hes with
            | .cons e1 es1, hes =>
              unfold chkEs at hes
              simp only [Bool.and_eq_true] at hes
              match es1, hes.2 with
              | .nil, _ => exact q_dpop (fz := fz) q (sE e1 X c W a g tk hes.1.2) hb hl hes.1.1
              | .cons e2 es2, z => unfold chkEs at z; cases z
            | .nil, z => unfold chkEs at z; cases z
        · match ys, hlen, hes with
          | [], _, hes =>
            match es, hes with
            | .nil, _ => exact q_dclear (fz := fz) q hb hl
            | .cons e1 es1, z => unfold chkEs at z; cases z
      · have ha := sEs es X c W _ g tk hes
        cases ys with
        | nil =>
          cases es with
          | nil => exact sM0 g hm hlen.symm q hb hl
          | cons e1 es1 => unfold chkEs at hes; cases hes
        | cons y ys =>
          rw [List.all_cons, Bool.and_eq_true] at hst
          exact sM2 g hm hd (by rw [← hlen]; simp) q ha hb hl hn hst.1 hst.2
    · cases h
  | .slc fz o l lo h' hi, X, c, W, x, g, tk, h => by
    unfold chkE at h
    split at h
    · rename_i o' lo' hi' p1 p2
      simp only [Bool.and_eq_true] at h
      obtain ⟨⟨ho, h1⟩, h2⟩ := h
      have q := sE o X c W o' g tk ho
      have q1 : PO X lo' (LPo G W l (wE G P n lo)) := by
        cases lo' with
        | none =>
          cases l with
          | false => exact q_po0
          | true => cases h1
        | some y =>
          simp only [Bool.and_eq_true] at h1
          cases h1.1
          exact q_po1 (sE lo X c W y g tk h1.2)
      have q2 : PO X hi' (LPo G W h' (wE G P n hi)) := by
        cases hi' with
        | none =>
          cases h' with
          | false => exact q_po0
          | true => cases h2
        | some y =>
          simp only [Bool.and_eq_true] at h2
          cases h2.1
          exact q_po1 (sE hi X c W y g tk h2.2)
      exact q_slc g.fx.K q q1 q2
    · cases h
  | .rvs fz o, X, c, W, x, g, tk, h => by unfold chkE at h; cases h
  | .gidx j a, X, c, W, x, g, tk, h => by
    unfold chkE at h
    split at h
    · simp only [Bool.and_eq_true, decide_eq_true_eq] at h
      obtain ⟨⟨⟨⟨⟨rfl, h1⟩, h2⟩, hl⟩, hs⟩, ha⟩ := h
      obtain ⟨gl, hd⟩ := gln_ok g h2
      split at h1
      · rename_i y d ej
        cases of_decide_eq_true h1
        exact q_gidx g.fx g.fx.K ej gl hd (sE a X c W _ g tk ha) hl hs
      · cases h1
    · cases h
  | .chain o1 o2 a b d, X, c, W, x, g, tk, h => by
    unfold chkE at h
    split at h
    · simp only [Bool.and_eq_true, Bool.not_eq_true'] at h
      obtain ⟨⟨⟨⟨⟨h1, h2⟩, h3⟩, ha⟩, hb⟩, hd⟩ := h
      exact q_chain (sCmp g h1) (sCmp g h2) (sE a X c W _ g tk ha) (sE b X c W _ g tk hb) (sE d X c W _ g tk hd) h3
    · cases h
  | .bin o fz a b, X, c, W, x, g, tk, h => by
    unfold chkE at h
    split at h
    · simp only [Bool.and_eq_true] at h
      exact q_bin (sOp g h.1.1) (sE a X c W _ g tk h.1.2) (sE b X c W _ g tk h.2)
    · cases h
  | .neg a, X, c, W, x, g, tk, h => by
    unfold chkE at h
    split at h
    · split at h
      · exact q_neg (sE a X c W _ g tk h)
      · cases h
    · cases h
  | .nt a, X, c, W, x, g, tk, h => by
    unfold chkE at h
    split at h
    · split at h
      · exact q_not (sE a X c W _ g tk h)
      · cases h
    · cases h
  | .cmp o a b, X, c, W, x, g, tk, h => by
    unfold chkE at h
    split at h
    · simp only [Bool.and_eq_true, Bool.not_eq_true'] at h
      exact q_cmp (sCmp g h.1.1.1) (sE a X c W _ g tk h.1.2) (sE b X c W _ g tk h.2) h.1.1.2
    · cases h
  | .conj es, X, c, W, x, g, tk, h => by
    unfold chkE at h
    split at h
    · split at h
      · exact sConj es X c W _ _ g tk h
      · cases h
    · cases h
  | .disj es, X, c, W, x, g, tk, h => by
    unfold chkE at h
    split at h
    · split at h
      · exact sDisj es X c W _ _ g tk h
      · cases h
    · cases h
  | .ite t a b, X, c, W, x, g, tk, h => by
    unfold chkE at h
    split at h
    · simp only [Bool.and_eq_true, Bool.or_eq_true] at h
      refine q_ite ?_ (sE a X c W _ g tk h.1.2) (sE b X c W _ g tk h.2)
      rcases h.1.1 with h1 | h1
      · exact sT t X c W _ g tk h1
      · exact qt_val (sE t X c W _ g tk h1.2) h1.1
    · cases h
  | .tup es, X, c, W, x, g, tk, h => by
    unfold chkE at h
    split at h
    · exact q_tup (sEs es X c W _ g tk h)
    · cases h
  | .lst fz es, X, c, W, x, g, tk, h => by
    unfold chkE at h
    split at h
    · exact q_lst (sEs es X c W _ g tk h)
    · cases h
  | .dsp t2 es, X, c, W, x, g, tk, h => by
    unfold chkE at h
    split at h
    · rename_i ks vs p
      cases es with
      | nil =>
        simp only [Bool.and_eq_true, List.isEmpty_iff] at h
        obtain ⟨rfl, rfl⟩ := h
        refine ⟨fun pins s σ H Q I hh => (q_disp0 (G := G) (W := W) (t2 := t2)).run pins s σ H Q I ?_⟩
        obtain ⟨fr, F, S, Qd, Ed, rf, rs, hw, fe, fx⟩ := hh
        refine ⟨fr, F, S, Qd, Ed, rf, rs, ?_, fe, fx⟩
        have hw : (if t2 = true then newO (.dc2 []) S Qd else ([] : List (Key × D)).length ≤ 15 ∧ newO (.dct (mergeD [] [])) S Qd) := hw
        show (if t2 = true then newO (.dc2 []) S Qd else newO (.dct []) S Qd)
        split at hw
        · rename_i ht; rw [if_pos ht]; exact hw
        · rename_i ht; rw [if_neg ht]; exact hw.2
      | cons e1 es1 =>
        simp only [Bool.and_eq_true, Bool.not_eq_true', decide_eq_true_eq, List.isEmpty_eq_false_iff] at h
        obtain ⟨⟨⟨⟨⟨rfl, hl⟩, h15⟩, hall⟩, h0⟩, hd⟩ := h
        obtain ⟨trs, h1, h2⟩ := sD (.cons e1 es1) X c W ks vs p g tk hd
        exact q_disp h1 h2 hall hl h0 h15
    · cases h
  | .idx a i, X, c, W, x, g, tk, h => by
    unfold chkE at h
    split at h
    · simp only [Bool.and_eq_true] at h
      exact q_idx (sb_idx g.fx.K g.un64) (sE a X c W _ g tk h.1.1) (sE i X c W _ g tk h.1.2) h.2
    · cases h
  | .fld o f, X, c, W, x, g, tk, h => by
    unfold chkE at h
    split at h
    · simp only [Bool.and_eq_true, decide_eq_true_eq] at h
      obtain ⟨⟨rfl, hb⟩, ho⟩ := h
      exact q_fld g.fx (sE o X c W _ g tk ho) (base_ok hb _)
    · cases h
  | .call k es, X, c, W, x, g, tk, h => by
    unfold chkE at h
    split at h
    · rename_i x0 p0 ys p1
      simp only [Bool.and_eq_true] at h
      obtain ⟨⟨⟨hf, hg⟩, hc⟩, hes⟩ := h
      obtain ⟨f, ef, rfl, hgl⟩ := fn_ok hf
      obtain ⟨gl, hd⟩ := gln_ok g hg
      have ha := sEs es X c W _ g tk hes
      have hst := chkEs_star hes
      have hr := (g.room hc).mono (j := lev n) (Nat.le_succ _)
      cases ys with
      | nil =>
        cases es with
        | nil => exact q_call0 g.fx ef hgl g.gd hr tk gl hd
        | cons e1 es1 => unfold chkEs at hes; cases hes
      | cons y ys =>
        rw [List.all_cons, Bool.and_eq_true] at hst
        exact q_call g.fx ef hgl g.gd hr tk gl hd ha hst.1 hst.2
    · cases h
  | .callk k nm pt dv es ks, X, c, W, x, g, tk, h => by unfold chkE at h; cases h
  | .callv i es, X, c, W, x, g, tk, h => by unfold chkE at h; cases h
  | .make k nm pt dv es ks, X, c, W, x, g, tk, h => by
    unfold chkE at h
    split at h
    · rename_i x0 p0 ys kws0 p1
      simp only [Bool.and_eq_true, decide_eq_true_eq] at h
      obtain ⟨⟨⟨⟨⟨⟨hx, hg⟩, hc⟩, hm⟩, hk⟩, hes⟩, hks⟩ := h
      split at hm
      · rename_i j ej
        obtain ⟨f, ef, hm⟩ := kwI_ok P hm
        obtain ⟨gl, hd⟩ := gln_ok g hg
        have ha := sEs es X c W _ g tk hes
        have hkw := sKw ks X c W _ g tk hks
        have hst := chkEs_star hes
        have hlen := chkEs_len hes
        have hr := g.room hc
        refine ⟨fun pins s σ H Q I hh => ?_⟩
        cases ys with
        | nil =>
          cases es with
          | nil =>
            refine (q_make0 g.fx hx ej ef g.gd hr tk gl hd hm hk hkw).run pins s σ H Q I ?_
            obtain ⟨fr, F, S, Qd, Ed, rf, rs, hw, fe, fx⟩ := hh
            refine ⟨fr, F, S, Qd, Ed, rf, rs, ?_, fe, fx⟩
            simp only [wE, wpE, ej] at hw
            exact hw
          | cons e1 es1 => unfold chkEs at hes; cases hes
        | cons y ys =>
          rw [List.all_cons, Bool.and_eq_true] at hst
          rw [← hlen] at hm
          refine (q_make g.fx hx ej ef g.gd hr tk gl hd hm hk ha hst.1 hst.2 hkw).run pins s σ H Q I ?_
          obtain ⟨fr, F, S, Qd, Ed, rf, rs, hw, fe, fx⟩ := hh
          refine ⟨fr, F, S, Qd, Ed, rf, rs, ?_, fe, fx⟩
          simp only [wE, wpE, ej] at hw
          exact hw
      · cases hm
    · cases h
  | .mcl f0 nm pt dv o es ks, X, c, W, x, g, tk, h => by
    unfold chkE at h
    split at h
    · rename_i o' y0 apos ys kws0 p1
      simp only [Bool.and_eq_true, decide_eq_true_eq] at h
      obtain ⟨⟨⟨⟨⟨⟨⟨⟨⟨rfl, hb⟩, hl⟩, h28⟩, hc⟩, hm⟩, hk⟩, ho⟩, hes⟩, hks⟩ := h
      have q := sE o X c W _ g tk ho
      have ha := sEs es X c W _ g tk hes
      have hkw := sKw ks X c W _ g tk hks
      have hst := chkEs_star hes
      have hlen := chkEs_len hes
      have hall : ∀ c0 k, c0 < P.ncl → P.mth c0 f0 = some k → ∃ f, P.fns[k]? = some f ∧ (ys.length + 1, nm, 0 :: pt.map (· + 1), dv) ∈ f.kw := fun c0 k hc0 e => by
        have := List.all_eq_true.mp hm c0 (List.mem_range.mpr hc0)
        rw [e] at this
        exact kwI_ok P this
      have hr := (g.room hc).mono (j := lev n) (Nat.le_succ _)
      obtain ⟨pl, ht⟩ := meth_eq (x := f0) (env := X.env) hb hst hk hl h28
      cases ys with
      | nil =>
        cases es with
        | nil => exact q_mcl0 g.fx g.gd hr tk hall hk q hkw ht
        | cons e1 es1 => unfold chkEs at hes; cases hes
      | cons y ys =>
        rw [List.all_cons, Bool.and_eq_true] at hst
        rw [← hlen] at hall
        exact q_mcl g.fx g.gd hr tk hall hk q ha hst.1 hst.2 hkw ht
    · cases h
  | .blt f fz es, X, c, W, x, g, tk, h => by
    unfold chkE at h
    rw [Bool.or_eq_true] at h
    rcases h with h | h
    · split at h
      · simp only [Bool.and_eq_true, decide_eq_true_eq, Bool.not_eq_true'] at h
        obtain ⟨⟨⟨⟨⟨hx, hm⟩, hg⟩, hc⟩, hes⟩, hne⟩ := h
        have ha := sEs es X c W _ g tk hes
        have hst := chkEs_star hes
        rename_i x0 p0 ys p1
        cases ys with
        | nil => cases hne
        | cons y ys =>
          rw [List.all_cons, Bool.and_eq_true] at hst
          exact sB g hc hx hm hg ha hst.1 hst.2
      · cases h
    · match es, h with
      | .cons a .nil, h =>
        dsimp only at h
        split at h
        · rename_i b e
          simp only [Bool.and_eq_true, List.all_eq_true, decide_eq_true_eq] at h
          obtain ⟨⟨⟨hn, hc⟩, hs⟩, ha⟩ := h
          exact q_sp2 (W := W) (P := P.toPg) (fz := fz) e (fun y hy => ⟨gl_ok g (hn y hy).2, g.fx.blt _ (hn y hy).1⟩) g.fx.K (g.calm hc) hs (sE a X c W b g tk ha)
        · cases h
  | .comp fz tg it ts e own, X, c, W, x, g, tk, h => by
    unfold chkE at h
    split at h
    · rename_i elt tgE itE ifs scope p
      simp only [Bool.and_eq_true, decide_eq_true_eq, List.all_eq_true, List.contains_iff_mem] at h
      obtain ⟨⟨⟨⟨⟨⟨⟨⟨⟨hc, hb⟩, ho⟩, hsl⟩, hfr⟩, hset⟩, hi⟩, htg⟩, hts⟩, he⟩ := h
      have ok : BlkOk X.N X.env.scope scope (ownOf c.N own) := by
        rw [g.N, g.sc]
        exact blkOk_by hb
      have q := q_comp (pos := p) (W := W) (fz := fz) (g.calm hc) g.nd (sI it X c W itE tgE g tk hi) ok (fun s H C cl fp => sG (g.blk hc s H scope C cl fp) tg tgE htg)
        (fun s H C cl fp => sTs ts _ _ ifs (g.blk hc s H scope C cl fp) L4T.takes0 hts) (fun s H C cl fp => sE e _ _ Wno elt (g.blk hc s H scope C cl fp) L4T.takes0 he) hset (fun i hi => by rw [ho]; exact hsl i hi) (fun i hi => g.fre (hfr i (by rw [ho] at hi; exact hi)))
      rw [ho] at q
      exact q
    · cases h
  | .fst es, X, c, W, x, g, tk, h => by unfold chkE at h; cases h
  | .frz e, X, c, W, x, g, tk, h => by
    unfold chkE at h
    exact q_frz (sE e X c W x g tk h)
  | .frzo e, X, c, W, x, g, tk, h => by unfold chkE at h; cases h
  | .xis a, X, c, W, x, g, tk, h => by
    unfold chkE at h
    split at h
    · simp only [Bool.and_eq_true, decide_eq_true_eq] at h
      obtain ⟨⟨⟨⟨⟨⟨⟨rfl, hb⟩, hg⟩, hN⟩, hv⟩, hn⟩, hs⟩, he⟩ := h
      split at hN
      · rename_i i ei
        exact q_xis g.fx (fun a o z => (g.px a o z).1) (g.xg i ei) (gl_ok g hg) (g.fx.blt _ hb) (by rw [g.N]; exact of_decide_eq_true hN) (vis_ok g hv) (nm_ok hn).1 (nm_ok hn).2.1 (sE a X c W _ g tk he) hs
      · cases hN
    · cases h
  | .xfd f, X, c, W, x, g, tk, h => by
    unfold chkE at h
    split at h
    · simp only [Bool.and_eq_true, decide_eq_true_eq] at h
      obtain ⟨⟨⟨⟨rfl, hN⟩, hv⟩, hn⟩, hf⟩ := h
      split at hN
      · rename_i i ei
        obtain ⟨j, _, hj⟩ := List.any_eq_true.mp hf
        rw [Bool.and_eq_true] at hj
        exact q_xfd g.fx (fun a o z => (g.px a o z).1) (g.xg i ei) ⟨j, hj.1, List.contains_iff_mem.mp hj.2⟩ (by rw [g.N]; exact of_decide_eq_true hN) (vis_ok g hv) (nm_ok hn).1 (nm_ok hn).2.1 rfl
      · cases hN
    · cases h
  | .cllx k es, X, c, W, x, g, tk, h => by
    unfold chkE at h
    split at h
    · simp only [Bool.and_eq_true, Bool.not_eq_true'] at h
      obtain ⟨⟨⟨⟨⟨⟨⟨hf, hg⟩, hc⟩, hx⟩, hN⟩, hv⟩, hn⟩, hes⟩ := h
      obtain ⟨f, ef, rfl, hgl⟩ := fn_ok hf
      rw [ef] at hx
      split at hN
      · rename_i i ei
        exact q_cllx g.fx ef hx hgl g.gd (g.rh.mono (Nat.le_succ _)) (fun a o z => ⟨(g.px a o z).1, g.ht a o z⟩) (g.xg i ei) (gln_ok g hg).1 (gln_ok g hg).2 (by rw [g.N]; exact of_decide_eq_true hN) (vis_ok g hv) (nm_ok hn).1 (nm_ok hn).2.1 (sEs es X c W _ g tk hes) (chkEs_star hes)
      · cases hN
    · cases h
  | .ocmp neg a b, X, c, W, x, g, tk, h => by unfold chkE at h; cases h
  | .oeq a b, X, c, W, x, g, tk, h => by unfold chkE at h; cases h
  | .osp r a, X, c, W, x, g, tk, h => by unfold chkE at h; cases h
theorem sT : ∀ (e : IE) (X : Cx) (c : Ct) (W : WX) (x : Expr), Good X G P n c → L2N.Takes X W → chkT P c e x = true → PT X x (LT G W (wE G P n e))
  | .nt a, X, c, W, x, g, tk, h => by
    unfold chkT at h
    split at h
    · split at h
      · simp only [Bool.or_eq_true, Bool.and_eq_true] at h
        refine qt_not ?_
        rcases h with h1 | h1
        · exact sT a X c W _ g tk h1
        · exact qt_val (sE a X c W _ g tk h1.2) h1.1
      · cases h
    · cases h
  | .cmp o a b, X, c, W, x, g, tk, h => by
    unfold chkT at h
    split at h
    · simp only [Bool.and_eq_true, Bool.not_eq_true'] at h
      exact qt_cmp (sCmp g h.1.1.1) (sE a X c W _ g tk h.1.2) (sE b X c W _ g tk h.2) h.1.1.2
    · cases h
  | .chain o1 o2 a b d, X, c, W, x, g, tk, h => by
    unfold chkT at h
    split at h
    · simp only [Bool.and_eq_true, Bool.not_eq_true'] at h
      obtain ⟨⟨⟨⟨⟨h1, h2⟩, h3⟩, ha⟩, hb⟩, hd⟩ := h
      exact qt_chain (sCmp g h1) (sCmp g h2) (sE a X c W _ g tk ha) (sE b X c W _ g tk hb) (sE d X c W _ g tk hd) h3
    · cases h
  | .conj es, X, c, W, x, g, tk, h => by
    unfold chkT at h
    split at h
    · split at h
      · exact (sConjT es X c W _ _ g tk h).pt
      · cases h
    · cases h
  | .disj es, X, c, W, x, g, tk, h => by
    unfold chkT at h
    split at h
    · split at h
      · exact (sDisjT es X c W _ _ g tk h).pt
      · cases h
    · cases h
  | .var _, _, _, _, _, _, _, h => by unfold chkT at h; cases h
  | .cst _, _, _, _, _, _, _, h => by unfold chkT at h; cases h
  | .fnv _, _, _, _, _, _, _, h => by unfold chkT at h; cases h
  | .clv _, _, _, _, _, _, _, h => by unfold chkT at h; cases h
  | .gc _, _, _, _, _, _, _, h => by unfold chkT at h; cases h
  | .tyv _, _, _, _, _, _, _, h => by unfold chkT at h; cases h
  | .met _ _ _ _, _, _, _, _, _, _, h => by unfold chkT at h; cases h
  | .slc _ _ _ _ _ _, _, _, _, _, _, _, h => by unfold chkT at h; cases h
  | .rvs _ _, _, _, _, _, _, _, h => by unfold chkT at h; cases h
  | .gidx _ _, _, _, _, _, _, _, h => by unfold chkT at h; cases h
  | .bin _ _ _ _, _, _, _, _, _, _, h => by unfold chkT at h; cases h
  | .neg _, _, _, _, _, _, _, h => by unfold chkT at h; cases h
  | .ite _ _ _, _, _, _, _, _, _, h => by unfold chkT at h; cases h
  | .tup _, _, _, _, _, _, _, h => by unfold chkT at h; cases h
  | .lst _ _, _, _, _, _, _, _, h => by unfold chkT at h; cases h
  | .dsp _ _, _, _, _, _, _, _, h => by unfold chkT at h; cases h
  | .idx _ _, _, _, _, _, _, _, h => by unfold chkT at h; cases h
  | .fld _ _, _, _, _, _, _, _, h => by unfold chkT at h; cases h
  | .call _ _, _, _, _, _, _, _, h => by unfold chkT at h; cases h
  | .callk _ _ _ _ _ _, _, _, _, _, _, _, h => by unfold chkT at h; cases h
  | .callv _ _, _, _, _, _, _, _, h => by unfold chkT at h; cases h
  | .make _ _ _ _ _ _, _, _, _, _, _, _, h => by unfold chkT at h; cases h
  | .mcl _ _ _ _ _ _ _, _, _, _, _, _, _, h => by unfold chkT at h; cases h
  | .blt _ _ _, _, _, _, _, _, _, h => by unfold chkT at h; cases h
  | .comp _ _ _ _ _ _, _, _, _, _, _, _, h => by unfold chkT at h; cases h
  | .fst _, _, _, _, _, _, _, h => by unfold chkT at h; cases h
  | .frz _, _, _, _, _, _, _, h => by unfold chkT at h; cases h
  | .frzo _, _, _, _, _, _, _, h => by unfold chkT at h; cases h
  | .xis _, _, _, _, _, _, _, h => by unfold chkT at h; cases h
  | .xfd _, _, _, _, _, _, _, h => by unfold chkT at h; cases h
  | .cllx _ _, _, _, _, _, _, _, h => by unfold chkT at h; cases h
  | .ocmp neg a b, X, c, W, x, g, tk, h => by unfold chkT at h; cases h
  | .osp _ _, _, _, _, _, _, _, h => by unfold chkT at h; cases h
  | .oeq a b, X, c, W, x, g, tk, h => by unfold chkT at h; cases h
theorem sEs : ∀ (es : IEs) (X : Cx) (c : Ct) (W : WX) (xs : List Expr), Good X G P n c → L2N.Takes X W → chkEs P c es xs = true → PA X xs (LA G W (wEs G P n es))
  | .nil, X, c, W, xs, g, tk, h => by
    unfold chkEs at h
    rw [List.isEmpty_iff.mp h]
    exact q_nil
  | .cons e es, X, c, W, xs, g, tk, h => by
    unfold chkEs at h
    cases xs with
    | nil => cases h
    | cons x r =>
      dsimp only at h
      simp only [Bool.and_eq_true] at h
      exact q_cons (sE e X c W x g tk h.1.2) (sEs es X c W r g tk h.2) h.1.1
theorem sKw : ∀ (es : IEs) (X : Cx) (c : Ct) (W : WX) (kws : List Keyword), Good X G P n c → L2N.Takes X W → chkEs P c es (kws.map (·.value)) = true → PK X kws (LA G W (wEs G P n es))
  | .nil, X, c, W, kws, g, tk, h => by
    unfold chkEs at h
    cases kws with
    | nil => exact q_knil
    | cons k r => cases h
  | .cons e es, X, c, W, kws, g, tk, h => by
    unfold chkEs at h
    cases kws with
    | nil => cases h
    | cons k r =>
      obtain ⟨nm, v, kp⟩ := k
      simp only [List.map_cons, Bool.and_eq_true] at h
      exact q_kcons (sE e X c W v g tk h.1.2) (sKw es X c W r g tk h.2)
theorem sConj : ∀ (es : IEs) (X : Cx) (c : Ct) (W : WX) (xs : List Expr) (pos : Pos), Good X G P n c → L2N.Takes X W → chkEs P c es xs = true → PE X (.BoolOp .And xs pos) (LE G W (wpConj (wpCall P n) P.toPg (G.xi.map (·.2)) es))
  | .nil, X, c, W, xs, pos, g, tk, h => ⟨fun pins s σ H Q I hh => by
    obtain ⟨fr, F, S, Qd, Ed, rf, rs, hw, fe, fx⟩ := hh
    exact hw.elim⟩
  | .cons e es, X, c, W, xs, pos, g, tk, h => by
    unfold chkEs at h
    cases xs with
    | nil => cases h
    | cons x r =>
      dsimp only at h
      simp only [Bool.and_eq_true] at h
      have hx := sE e X c W x g tk h.1.2
      cases es with
      | nil =>
        have h2 := h.2
        unfold chkEs at h2
        rw [List.isEmpty_iff.mp h2]
        exact q_one hx
      | cons e2 es2 =>
        have hr := sConj (.cons e2 es2) X c W r pos g tk h.2
        cases r with
        | nil => have h2 := h.2; unfold chkEs at h2; cases h2
        | cons y r => exact q_and hx hr
theorem sDisj : ∀ (es : IEs) (X : Cx) (c : Ct) (W : WX) (xs : List Expr) (pos : Pos), Good X G P n c → L2N.Takes X W → chkEs P c es xs = true → PE X (.BoolOp .Or xs pos) (LE G W (wpDisj (wpCall P n) P.toPg (G.xi.map (·.2)) es))
  | .nil, X, c, W, xs, pos, g, tk, h => ⟨fun pins s σ H Q I hh => by
    obtain ⟨fr, F, S, Qd, Ed, rf, rs, hw, fe, fx⟩ := hh
    exact hw.elim⟩
  | .cons e es, X, c, W, xs, pos, g, tk, h => by
    unfold chkEs at h
    cases xs with
    | nil => cases h
    | cons x r =>
      dsimp only at h
      simp only [Bool.and_eq_true] at h
      have hx := sE e X c W x g tk h.1.2
      cases es with
      | nil =>
        have h2 := h.2
        unfold chkEs at h2
        rw [List.isEmpty_iff.mp h2]
        exact q_one hx
      | cons e2 es2 =>
        have hr := sDisj (.cons e2 es2) X c W r pos g tk h.2
        cases r with
        | nil => have h2 := h.2; unfold chkEs at h2; cases h2
        | cons y r => exact q_or hx hr
theorem sConjT : ∀ (es : IEs) (X : Cx) (c : Ct) (W : WX) (xs : List Expr) (pos : Pos), Good X G P n c → L2N.Takes X W → chkTl P c es xs = true → PW X (.BoolOp .And xs pos) (LT G W (wpConj (wpCall P n) P.toPg (G.xi.map (·.2)) es))
  | .nil, X, c, W, xs, pos, g, tk, h => ⟨fun wh pins s σ H Q I hh => by
    obtain ⟨fr, F, S, Qd, Ed, rf, rs, hw, fe, fx⟩ := hh
    exact hw.elim⟩
  | .cons e es, X, c, W, xs, pos, g, tk, h => by
    unfold chkTl at h
    cases xs with
    | nil => cases h
    | cons x r =>
      dsimp only at h
      simp only [Bool.and_eq_true, Bool.or_eq_true] at h
      have hx : PT X x (LT G W (wE G P n e)) := by
        rcases h.1 with h1 | h1
        · exact sT e X c W _ g tk h1
        · exact qt_val (sE e X c W _ g tk h1.2) h1.1
      cases es with
      | nil =>
        have h2 := h.2
        unfold chkTl at h2
        rw [List.isEmpty_iff.mp h2]
        exact pw_and1 hx
      | cons e2 es2 =>
        have hr := sConjT (.cons e2 es2) X c W r pos g tk h.2
        cases r with
        | nil => have h2 := h.2; unfold chkTl at h2; cases h2
        | cons y r => exact qw_and hx hr
theorem sDisjT : ∀ (es : IEs) (X : Cx) (c : Ct) (W : WX) (xs : List Expr) (pos : Pos), Good X G P n c → L2N.Takes X W → chkTl P c es xs = true → PW X (.BoolOp .Or xs pos) (LT G W (wpDisj (wpCall P n) P.toPg (G.xi.map (·.2)) es))
  | .nil, X, c, W, xs, pos, g, tk, h => ⟨fun wh pins s σ H Q I hh => by
    obtain ⟨fr, F, S, Qd, Ed, rf, rs, hw, fe, fx⟩ := hh
    exact hw.elim⟩
  | .cons e es, X, c, W, xs, pos, g, tk, h => by
    unfold chkTl at h
    cases xs with
    | nil => cases h
    | cons x r =>
      dsimp only at h
      simp only [Bool.and_eq_true, Bool.or_eq_true] at h
      have hx : PT X x (LT G W (wE G P n e)) := by
        rcases h.1 with h1 | h1
        · exact sT e X c W _ g tk h1
        · exact qt_val (sE e X c W _ g tk h1.2) h1.1
      cases es with
      | nil =>
        have h2 := h.2
        unfold chkTl at h2
        rw [List.isEmpty_iff.mp h2]
        exact pw_or1 hx
      | cons e2 es2 =>
        have hr := sDisjT (.cons e2 es2) X c W r pos g tk h.2
        cases r with
        | nil => have h2 := h.2; unfold chkTl at h2; cases h2
        | cons y r => exact qw_or hx hr
theorem sTs : ∀ (es : IEs) (X : Cx) (c : Ct) (xs : List Expr), Good X G P n c → L2N.Takes X Wno → chkTs P c es xs = true → PTs X xs (LT G Wno (wpTs (wpCall P n) P.toPg (G.xi.map (·.2)) es))
  | .nil, X, c, xs, g, tk, h => by
    unfold chkTs at h
    rw [List.isEmpty_iff.mp h]
    refine ⟨fun pins s σ H Q I hh => pts_nil.run pins s σ H Q I ?_⟩
    obtain ⟨fr, F, S, Qd, Ed, rf, rs, hw, fe, fx⟩ := hh
    obtain ⟨b, e, q⟩ := fe _ F S H (TK.refl _) rs hw
    cases e
    exact q
  | .cons e es, X, c, xs, g, tk, h => by
    unfold chkTs at h
    split at h
    · rename_i x
      have hx : PT X x (LT G Wno (wE G P n e)) := by
        simp only [Bool.or_eq_true, Bool.and_eq_true] at h
        rcases h with h1 | h1
        · exact sT e X c Wno _ g tk h1
        · exact qt_val (sE e X c Wno _ g tk h1.2) h1.1
      refine ⟨fun pins s σ H Q I hh => (pts_one hx).run pins s σ H Q I ?_⟩
      obtain ⟨fr, F, S, Qd, Ed, rf, rs, hw, fe, fx⟩ := hh
      refine ⟨fr, F, S, _, Ed, rf, rs, hw, fun d F1 S1 H1 k1 rs1 h1 => ?_, fx⟩
      (try dsimp only at h1)
      split at h1
      · exact fe _ F1 S1 H1 k1 rs1 h1
      · exact fe _ F1 S1 H1 k1 rs1 h1
      · exact h1.elim
    · cases h
theorem sF : ∀ (es : IEs) (X : Cx) (c : Ct) (W : WX) (xs : List Expr), Good X G P n c → L2N.Takes X W → chkF P c es xs = true → ∃ ts, PJ X xs ts ∧ LJ G W (wpF (wpCall P n) P.toPg (G.xi.map (·.2)) es) ts
  | .nil, X, c, W, xs, g, tk, h => by
    unfold chkF at h
    rw [List.isEmpty_iff.mp h]
    exact ⟨[], .nil, j_nil⟩
  | .cons e es, X, c, W, xs, g, tk, h => by
    unfold chkF at h
    cases xs with
    | nil => cases h
    | cons x r =>
      dsimp only at h
      simp only [Bool.and_eq_true] at h
      obtain ⟨tt, h1, h2⟩ := sF es X c W r g tk h.2
      have hx := h.1
      split at hx
      · rename_i v k fs p
        simp only [Bool.and_eq_true, Bool.or_eq_true, decide_eq_true_eq, Option.isNone_iff_eq_none] at hx
        obtain ⟨rfl, ⟨rfl, hv⟩ | ⟨⟨rfl, hc⟩, hv⟩⟩ := hx
        · exact ⟨_, .cons (q_fmt (sE e X c W v g tk hv)) h1, j_val h2⟩
        · match e, hv with
          | .blt f fz (.cons a .nil), hv =>
            simp only [Bool.and_eq_true, decide_eq_true_eq] at hv
            obtain ⟨rfl, hv⟩ := hv
            exact ⟨_, .cons (q_fmtR (P := P.toPg) (fz := fz) g.fx.K g.fx.sm g.gd g.un64 (sE a X c W v g tk hv)) h1, j_valR h2⟩
      · split at hx
        · rw [Bool.and_eq_true] at hx
          cases of_decide_eq_true hx.1
          exact ⟨_, .cons pe_str h1, j_str hx.2 h2⟩
        · cases hx
      · cases hx
theorem sD : ∀ (es : IEs) (X : Cx) (c : Ct) (W : WX) (ks : List (Option Expr)) (vs : List Expr) (pos : Pos), Good X G P n c → L2N.Takes X W → chkD P c es ks vs = true → ∃ trs, PPs X pos ks vs trs ∧ LPr G W (wEs G P n es) trs
  | .nil, X, c, W, ks, vs, pos, g, tk, h => by
    unfold chkD at h
    simp only [Bool.and_eq_true, List.isEmpty_iff] at h
    obtain ⟨rfl, rfl⟩ := h
    exact ⟨[], pps_nil, pr_nil⟩
  | .cons e es, X, c, W, ks, vs, pos, g, tk, h => by
    unfold chkD at h
    cases es with
    | nil => cases h
    | cons e2 es2 =>
      dsimp only at h
      split at h
      · simp only [Bool.and_eq_true] at h
        obtain ⟨trs, h1, h2⟩ := sD es2 X c W _ _ pos g tk h.2
        exact ⟨_, pps_cons (sE e X c W _ g tk h.1.1) (sE e2 X c W _ g tk h.1.2) h1, pr_cons h2⟩
      · cases h
theorem sI : ∀ (it : II) (X : Cx) (c : Ct) (W : WX) (x tg : Expr), Good X G P n c → L2N.Takes X W → chkI P c it x tg = true → PI X tg x (LI G W (wpI (wpCall P n) P.toPg (G.xi.map (·.2)) it))
  | .rng1 e, X, c, W, x, tg, g, tk, h => by
    unfold chkI at h
    split at h
    · simp only [Bool.and_eq_true, decide_eq_true_eq] at h
      obtain ⟨⟨⟨⟨rfl, hm⟩, hg⟩, hs⟩, he⟩ := h
      exact qi_rng1 (gl_ok g hg) (g.fx.blt _ hm) (sE e X c W _ g tk he) hs
    · cases h
  | .rng2 e e2, X, c, W, x, tg, g, tk, h => by unfold chkI at h; cases h
  | .rng3 _ _ _, X, c, W, x, tg, g, tk, h => by unfold chkI at h; cases h
  | .seq e, X, c, W, x, tg, g, tk, h => by
    unfold chkI at h
    exact qi_seq g.fx.K (sE e X c W _ g tk h)
  | .txt e, X, c, W, x, tg, g, tk, h => by
    unfold chkI at h
    exact qi_txt (sE e X c W _ g tk h)
  | .enm e, X, c, W, x, tg, g, tk, h => by
    unfold chkI at h
    split at h
    · simp only [Bool.and_eq_true, decide_eq_true_eq] at h
      obtain ⟨⟨⟨⟨⟨ht, rfl⟩, hm⟩, hg⟩, hs⟩, he⟩ := h
      cases tg <;> first | (cases ht; done) | skip
      exact qi_enm g.fx.K (gl_ok g hg) (g.fx.blt _ hm) (sE e X c W _ g tk he) hs
    · cases h
  | .zip e e2, X, c, W, x, tg, g, tk, h => by unfold chkI at h; cases h
  | .rev e, X, c, W, x, tg, g, tk, h => by unfold chkI at h; cases h
  | .dct w e, X, c, W, x, tg, g, tk, h => by unfold chkI at h; cases h
  | .lck _ _, X, c, W, x, tg, g, tk, h => by unfold chkI at h; cases h
end
end
end L4

namespace L4
open PySem PySem.Spec PyProof.Rows L2

theorem frz_ok {X : Cx} {G : Gd} {pins : List (Addr × Obj)} {σ : L2.St} {s : Shared} {F : Addr → Prop} {S : Sto} {H : Hp} {p : Addr} {o : O} (I : Inv X pins σ H s) (rs : RS G ⟨F, S, H⟩) (eo : S p = some o) :
    ∃ H2, Inv X pins σ H2 s ∧ TK ⟨F, S, H⟩ ⟨insF F p, S.del p, H2⟩ ∧ RS G ⟨insF F p, S.del p, H2⟩ ∧ Rp G ⟨insF F p, S.del p, H2⟩ (frzO o) (.ref p) := by
  obtain ⟨nf, ro⟩ := rs.st p o eo
  cases o with
  | lst ds =>
    obtain ⟨xs, hx, rr⟩ := ro
    have k2 := TK.frz (H' := H) rs eo fun _ _ => rfl
    exact ⟨H, I, k2, rs.frz eo (fun _ _ => rfl) ⟨_, hx⟩, Rp.lst.mpr ⟨p, xs, rfl, ⟨insF.same, hx⟩, Rps.tk k2.toRK _ _ rr⟩⟩
  | ins c fs =>
    obtain ⟨dx, xs, hx, h4, rr⟩ := ro
    have k2 := TK.frz (H' := H) rs eo fun _ _ => rfl
    exact ⟨H, I, k2, rs.frz eo (fun _ _ => rfl) ⟨_, hx⟩, Rp.ins.mpr ⟨p, dx, xs, rfl, insF.same, hx, h4, Rps.tk k2.toRK _ _ rr⟩⟩
  | dct kvs =>
    obtain ⟨xs, hx, h4, h5, rr⟩ := ro
    obtain ⟨od, I2⟩ := I.lock hx trivial
    have k2 := TK.frz (H' := upd H p (.frz od (.dK xs))) rs eo fun a ha => upd_ne ha
    exact ⟨_, I2, k2, rs.frz eo (fun a ha => upd_ne ha) ⟨_, upd_same⟩, Rp.dct.mpr ⟨p, od, xs, rfl, insF.same, upd_same, h4, h5, Rps.tk k2.toRK _ _ rr⟩⟩
  | dc2 kvs =>
    obtain ⟨xs, hx, h4, h5, rr⟩ := ro
    obtain ⟨od, I2⟩ := I.lock hx trivial
    have k2 := TK.frz (H' := upd H p (.frz od (.dT xs))) rs eo fun a ha => upd_ne ha
    exact ⟨_, I2, k2, rs.frz eo (fun a ha => upd_ne ha) ⟨_, upd_same⟩, Rp.dc2.mpr ⟨p, od, xs, rfl, insF.same, upd_same, by rw [h4, List.map_map]; rfl, h5, Rps.tk k2.toRK _ _ rr⟩⟩
section
variable {X : Cx} {G : Gx} {W : WX} {a b t : Expr} {wa wb wt : WEx} {pos : Pos}
theorem s_store {te : TE} {i : Nat} {st : Stmt} {we : WEx} (h : PS X st (tAsg te (gName i))) (he : ∀ σ H Q, LE G W we σ H Q → te σ H Q) (hx : G.fre i) : PS X st (LS G W (fun fr S P => we fr S (fun d S1 => P.nx (fr.set i (some d)) S1) (fun x S1 => P.xc x fr S1))) := by
  refine ⟨fun pins s σ H D I hh => h.run pins s σ H D I ?_⟩
  obtain ⟨fr, F, S, P, rf, rs, hw, fs⟩ := hh
  exact he _ _ _ ⟨fr, F, S, _, _, rf, rs, hw, fun d F1 S1 v H1 k1 rs1 r1 h1 => fs.nx _ F1 S1 _ H1 k1 ((rf.tk k1.toRK).set i hx r1) rs1 h1, fs.fx rf⟩
theorem s_exp {e : Expr} {we : WEx} (he : PE X e (LE G W we)) (hs : noComp e = true) : PS X (.Expr e pos) (LS G W (fun fr S P => we fr S (fun _ S1 => P.nx fr S1) (fun x S1 => P.xc x fr S1))) := by
  refine ⟨fun pins s σ H D I hh => (ps_expr (pos := pos) he (no_swap hs)).run pins s σ H D I ?_⟩
  obtain ⟨fr, F, S, P, rf, rs, hw, fs⟩ := hh
  exact ⟨fr, F, S, _, _, rf, rs, hw, fun d F1 S1 v H1 k1 rs1 r1 h1 => fs.nx _ F1 S1 _ H1 k1 (rf.tk k1.toRK) rs1 h1, fs.fx rf⟩
theorem s_ret {e : Expr} {we : WEx} (he : PE X e (LE G W we)) : PS X (.Return (some e) pos) (LS G W (fun fr S P => we fr S P.rt (fun x S1 => P.xc x fr S1))) := by
  refine ⟨fun pins s σ H D I hh => (ps_ret (pos := pos) he).run pins s σ H D I ?_⟩
  obtain ⟨fr, F, S, P, rf, rs, hw, fs⟩ := hh
  exact ⟨fr, F, S, _, _, rf, rs, hw, fs.rt, fs.fx rf⟩
theorem s_nil : PSs X [] (LS G W (fun fr S P => P.nx fr S)) := by
  refine ⟨fun pins s σ H D I hh => pss_nil.run pins s σ H D I ?_⟩
  obtain ⟨fr, F, S, P, rf, rs, hw, fs⟩ := hh
  exact fs.nx _ F S _ H (TK.refl _) rf rs hw
theorem s_cons {st : Stmt} {sts : List Stmt} {w1 w2 : WSt} (h1 : PS X st (LS G W w1)) (h2 : PSs X sts (LS G W w2)) : PSs X (st :: sts) (LS G W (fun fr S P => w1 fr S { nx := fun fr' S' => w2 fr' S' P, rt := P.rt, bk := P.bk, ct := P.ct, xc := P.xc })) := by
  refine ⟨fun pins s σ H D I hh => (pss_cons h1 h2).run pins s σ H D I ?_⟩
  obtain ⟨fr, F, S, P, rf, rs, hw, fs⟩ := hh
  exact ⟨fr, F, S, _, rf, rs, hw, ⟨fun fr' F' S' σ' H' k' rf' rs' h' => ⟨fr', F', S', P, rf', rs', h', fs.tk k'⟩, fs.rt, fs.bk, fs.ct, fs.xc⟩⟩

theorem s_frz {sts : List Stmt} {w : WSt} {i : Nat} (h : PSs X sts (LS G W w)) : PSs X sts (LS G W (fun fr S P => match fr[i]? with
    | some (some (.ref p)) => match S p with
      | some o => w (fr.set i (some (frzO o))) (S.del p) P
      | none => False
    | _ => False)) := by
  refine ⟨fun pins s σ H D I hh => ?_⟩
  obtain ⟨fr, F, S, P, rf, rs, hw, fs⟩ := hh
  (try dsimp only at hw)
  split at hw
  · rename_i p ei
    split at hw
    · rename_i o eo
      obtain ⟨H2, I2, k2, rs2, r2⟩ := frz_ok I rs eo
      refine h.run pins s σ H2 D I2 ⟨_, _, _, P, (rf.tk k2.toRK).tell i ei fun v hv => ?_, rs2, hw, fs.tk k2⟩
      cases Rp.ref.mp hv
      exact r2
    · exact hw.elim
  · exact hw.elim
theorem s_if {s1 s2 : List Stmt} {w1 w2 : WSt} (ht : PT X t (LT G W wt)) (h1 : PSs X s1 (LS G W w1)) (h2 : PSs X s2 (LS G W w2)) : PS X (.If t s1 s2 pos) (LS G W (fun fr S P => wt fr S (fun d S1 => match d with
    | .bl true => w1 fr S1 P
    | .bl false => w2 fr S1 P
    | _ => False) (fun x S1 => P.xc x fr S1))) := by
  refine ⟨fun pins s σ H D I hh => (ps_if (pos := pos) ht h1 h2).run pins s σ H D I ?_⟩
  obtain ⟨fr, F, S, P, rf, rs, hw, fs⟩ := hh
  refine ⟨fr, F, S, _, _, rf, rs, hw, fun d F1 S1 H1 k1 rs1 h1 => ?_, fs.fx rf⟩
  (try dsimp only at h1)
  split at h1
  · exact ⟨true, rfl, iteT ⟨fr, F1, S1, P, rf.tk k1.toRK, rs1, h1, fs.tk k1⟩⟩
  · exact ⟨false, rfl, iteF ⟨fr, F1, S1, P, rf.tk k1.toRK, rs1, h1, fs.tk k1⟩⟩
  · exact h1.elim
theorem s_while {body : List Stmt} {w1 : WSt} (hp : PassesOwn (model X.prog X.w) X.A X.env X.xe) (ht : PT X t (LT G W wt)) (hb : PSs X body (LS G W w1)) : PS X (.While t body [] pos) (LS G W (fun fr S P => ∃ n, whileW wt w1 n fr S P)) := by
  refine ⟨fun pins s σ H D I hh => (ps_while (pos := pos) hp ht hb).run pins s σ H D I ?_⟩
  obtain ⟨fr, F, S, P, rf, rs, ⟨n0, hw⟩, fs⟩ := hh
  refine ⟨fun m σ1 H1 => ∃ fr1 F1 S1, TK ⟨F, S, H⟩ ⟨F1, S1, H1⟩ ∧ RF G ⟨F1, S1, H1⟩ fr1 σ1 ∧ RS G ⟨F1, S1, H1⟩ ∧ whileW wt w1 m fr1 S1 P, ⟨n0, fr, F, S, TK.refl _, rf, rs, hw⟩, ?_⟩
  rintro m σ1 H1 ⟨fr1, F1, S1, k1, rf1, rs1, v1⟩
  cases m with
  | zero => exact v1.elim
  | succ m =>
    unfold whileW at v1
    refine ⟨fr1, F1, S1, _, _, rf1, rs1, v1, fun d F2 S2 H2 k2 rs2 h2 => ?_, (fs.tk k1).fx rf1⟩
    (try dsimp only at h2)
    have k := k1.trans k2
    split at h2
    · refine ⟨true, rfl, iteT ⟨fun σ' H' => ∃ fr1 F1 S1, TK ⟨F, S, H⟩ ⟨F1, S1, H'⟩ ∧ RF G ⟨F1, S1, H'⟩ fr1 σ' ∧ RS G ⟨F1, S1, H'⟩ ∧ whileW wt w1 m fr1 S1 P, fun σ' H' h => ⟨m, Nat.lt_succ_self m, h⟩, fr1, F2, S2, _, rf1.tk k2.toRK, rs2, h2, ⟨fun fr' F' S' σ' H' k' rf' rs' h => ⟨fr', F', S', k.trans k', rf', rs', h⟩, (fs.tk k).rt, (fs.tk k).nx, fun fr' F' S' σ' H' k' rf' rs' h => ⟨fr', F', S', k.trans k', rf', rs', h⟩, (fs.tk k).xc⟩⟩⟩
    · exact ⟨false, rfl, iteF ((fs.tk k).nx fr1 F2 S2 σ1 H2 (TK.refl _) (rf1.tk k2.toRK) rs2 h2)⟩
    · exact h2.elim

theorem no_swap1 {e t : Expr} {l : Nat} {env : Env} (h : noComp e = true) : swapsWithSole [t] e l env = pure false := no_swap h
theorem s_par {i j : Nat} {x y : Str} {px py pt pt2 : Pos} {k1 k2 : Nat} (hc : X.calm = true) (hN : X.N.Nodup) (hi : X.N[i]? = some x) (hj : X.N[j]? = some y) (hij : i ≠ j) (hx : X.env.scope.names.lookup x = some .local) (hy : X.env.scope.names.lookup y = some .local)
    (ha : PE X a (LE G W wa)) (hb : PE X b (LE G W wb)) (na : noStar a = true) (nb : noStar b = true) (hw : swappedStores [.Tuple [.Name x px, .Name y py] k1 pt] (.Tuple [a, b] k2 pt2) X.env = pure (some [x, y])) (fi : G.fre i) (fj : G.fre j) :
    PS X (.Assign [.Tuple [.Name x px, .Name y py] k1 pt] (.Tuple [a, b] k2 pt2) pos) (LS G W (fun fr S P => wa fr S (fun d S1 => wb fr S1 (fun d' S2 => P.nx ((fr.set i (some d)).set j (some d')) S2) (fun x S2 => P.xc x fr S2)) (fun x S1 => P.xc x fr S1))) := by
  refine ⟨fun pins s σ H D I hh => (ps_par (pos := pos) hc hN hi hj hij hx hy (pa_cons ha (pa_cons hb pa_nil (star_cons nb)) (star_cons na)) hw (no_swap1 rfl)).run pins s σ H D I ?_⟩
  obtain ⟨fr, F, S, P, rf, rs, hw, fs⟩ := hh
  refine ⟨fr, F, S, _, _, rf, rs, hw, fun d F1 S1 v H1 k1 rs1 r1 h1 => ⟨fr, F1, S1, _, _, rf.tk k1.toRK, rs1, h1, fun d2 F2 S2 v2 H2 k2 rs2 r2 h2 => ?_, (fs.tk k1).fx (rf.tk k1.toRK)⟩, fs.fx rf⟩
  exact ⟨v, v2, rfl, fs.nx _ F2 S2 _ H2 (k1.trans k2) (((rf.tk (k1.trans k2).toRK).set i fi (Rp.tk k2.toRK _ _ r1)).set j fj r2) rs2 h2⟩

noncomputable def LG (G : Gx) (W : WX) (w : D → Fr → Sto → Po → Prop) : TG := fun v σ H Q => ∃ d fr F S P, Rp G ⟨F, S, H⟩ d v ∧ RF G ⟨F, S, H⟩ fr σ ∧ RS G ⟨F, S, H⟩ ∧ w d fr S P ∧ (∀ fr' F' S' σ' H', TK ⟨F, S, H⟩ ⟨F', S', H'⟩ → RF G ⟨F', S', H'⟩ fr' σ' → RS G ⟨F', S', H'⟩ → P.nx fr' S' → Q σ' H') ∧
  (∀ x fr' F' S' c d' σ' H', TK ⟨F, S, H⟩ ⟨F', S', H'⟩ → RF G ⟨F', S', H'⟩ fr' σ' → RS G ⟨F', S', H'⟩ → RX G ⟨F', S', H'⟩ x c d' → P.xc x fr' S' → W c d' σ' H')
noncomputable def LGs (G : Gx) (W : WX) (w : List D → Fr → Sto → Po → Prop) : TGs := fun vs σ H Q => ∃ ds fr F S P, Rps G ⟨F, S, H⟩ ds vs ∧ RF G ⟨F, S, H⟩ fr σ ∧ RS G ⟨F, S, H⟩ ∧ w ds fr S P ∧ (∀ fr' F' S' σ' H', TK ⟨F, S, H⟩ ⟨F', S', H'⟩ → RF G ⟨F', S', H'⟩ fr' σ' → RS G ⟨F', S', H'⟩ → P.nx fr' S' → Q σ' H') ∧
  (∀ x fr' F' S' c d' σ' H', TK ⟨F, S, H⟩ ⟨F', S', H'⟩ → RF G ⟨F', S', H'⟩ fr' σ' → RS G ⟨F', S', H'⟩ → RX G ⟨F', S', H'⟩ x c d' → P.xc x fr' S' → W c d' σ' H')
theorem g_name {i : Nat} {x : Str} (hN : X.N.Nodup) (hi : X.N[i]? = some x) (hx : Loc X.env.scope x) (hf : X.fn x = true ∨ X.env.scope.names.lookup x = some .local) (fi : G.fre i) : PG X (.Name x pos) (LG G W (fun d fr S P => P.nx (fr.set i (some d)) S)) := by
  refine ⟨fun pins s σ H v u Q I r h => (pg_name (pos := pos) hN hi hx hf).run pins s σ H v u Q I r ?_⟩
  obtain ⟨d, fr, F, S, P, rd, rf, rs, hw, nx, xc⟩ := h
  exact nx _ F S _ H (TK.refl _) (rf.set i fi rd) rs hw
theorem plain_sub {o i : Expr} (h : plainIx i = true) : ∀ v, assign (.Subscript o i pos) X.env v = (do
      let ov ← holding [v] (eval o X.env)
      let iv ← holding [v, ov] (eval i X.env)
      standAt pos
      holding [v, ov, iv] (setItem ov iv v)
      release [v, ov, iv] []) := by
  intro v
  cases i <;> first | rfl | (cases h; done)
theorem sub_red {wo wi : WEx} {v : V} {d : D} {fr : Fr} {F : Addr → Prop} {S : Sto} {P : Po} {σ : L2.St} {H : Hp} {Q : L2.St → Hp → Prop} (rd : Rp G ⟨F, S, H⟩ d v) (rf : RF G ⟨F, S, H⟩ fr σ) (rs : RS G ⟨F, S, H⟩)
    (hw : wo fr S (fun x S2 => wi fr S2 (fun y S3 => wpPut x y d S3 fun S4 => P.nx fr S4) (fun x S3 => P.xc x fr S3)) (fun x S2 => P.xc x fr S2))
    (nx : ∀ fr' F' S' σ' H', TK ⟨F, S, H⟩ ⟨F', S', H'⟩ → RF G ⟨F', S', H'⟩ fr' σ' → RS G ⟨F', S', H'⟩ → P.nx fr' S' → Q σ' H') (xc : ∀ x fr' F' S' c d' σ' H', TK ⟨F, S, H⟩ ⟨F', S', H'⟩ → RF G ⟨F', S', H'⟩ fr' σ' → RS G ⟨F', S', H'⟩ → RX G ⟨F', S', H'⟩ x c d' → P.xc x fr' S' → W c d' σ' H') :
    gSub (LE G W wo) (LE G W wi) (LP G wpPut) v σ H Q := by
  refine ⟨fr, F, S, _, _, rf, rs, hw, fun x F2 S2 vo H2 k2 rs2 ro h2 => ⟨fr, F2, S2, _, _, rf.tk k2.toRK, rs2, h2, fun y F3 S3 vi H3 k3 rs3 ri h3 => ?_, fun e F' S' c d' H' k' rs' rx h' => xc e fr F' S' c d' σ H' (k2.trans k') (rf.tk (k2.trans k').toRK) rs' rx h'⟩, fun e F' S' c d' H' k' rs' rx h' => xc e fr F' S' c d' σ H' k' (rf.tk k'.toRK) rs' rx h'⟩
  have k := k2.trans k3
  exact ⟨x, y, d, F3, S3, _, rs3, Rp.tk k3.toRK _ _ ro, ri, Rp.tk k.toRK _ _ rd, h3, fun S' H' k' rs' h' => nx fr F3 S' σ H' (k.trans k') (rf.tk (k.trans k').toRK) rs' h'⟩
theorem g_sub {o i : Expr} {wo wi : WEx} (hu : X.A.units + 64 < cLine) (ho : PE X o (LE G W wo)) (hi : PE X i (LE G W wi)) (hp : plainIx i = true) : PG X (.Subscript o i pos) (LG G W (fun d fr S P => wo fr S (fun x S2 => wi fr S2 (fun y S3 => wpPut x y d S3 fun S4 => P.nx fr S4) (fun x S3 => P.xc x fr S3)) (fun x S2 => P.xc x fr S2))) := by
  refine ⟨fun pins s σ H v u Q I r h => (pg_sub (pos := pos) ho hi (sb_put (G := G.toGd) hu) (plain_sub hp)).run pins s σ H v u Q I r ?_⟩
  obtain ⟨d, fr, F, S, P, rd, rf, rs, hw, nx, xc⟩ := h
  exact sub_red rd rf rs hw nx xc
theorem gs_nil : PGs X [] (LGs G W (fun ds fr S P => match ds with
    | [] => P.nx fr S
    | _ => False)) := by
  refine ⟨fun pins s σ H vs us Q I r h => pgs_nil.run pins s σ H vs us Q I r ?_⟩
  obtain ⟨ds, fr, F, S, P, rd, rf, rs, hw, nx, xc⟩ := h
  (try dsimp only at hw)
  split at hw
  · exact ⟨Rps.nil.mp rd, nx _ F S _ H (TK.refl _) rf rs hw⟩
  · exact hw.elim
theorem gs_cons {e : Expr} {es : List Expr} {w1 : D → Fr → Sto → Po → Prop} {w2 : List D → Fr → Sto → Po → Prop} (h1 : PG X e (LG G W w1)) (h2 : PGs X es (LGs G W w2)) (hs : (assignEach (e :: es) X.env).map (·.2) = assign e X.env :: (assignEach es X.env).map (·.2)) :
    PGs X (e :: es) (LGs G W (fun ds fr S P => match ds with
    | d :: r => w1 d fr S { nx := fun fr' S' => w2 r fr' S' P, rt := P.rt, bk := P.bk, ct := P.ct, xc := P.xc }
    | [] => False)) := by
  refine ⟨fun pins s σ H vs us Q I r h => (pgs_cons h1 h2 hs).run pins s σ H vs us Q I r ?_⟩
  obtain ⟨ds, fr, F, S, P, rd, rf, rs, hw, nx, xc⟩ := h
  (try dsimp only at hw)
  split at hw
  · rename_i d rt
    obtain ⟨v, vr, rfl, r1, r2⟩ := Rps.cons.mp rd
    exact ⟨v, vr, rfl, d, fr, F, S, _, r1, rf, rs, hw, fun fr' F' S' σ' H' k' rf' rs' h' => ⟨rt, fr', F', S', P, Rps.tk k'.toRK _ _ r2, rf', rs', h', fun fr2 F2 S2 σ2 H2 k2 => nx fr2 F2 S2 σ2 H2 (k'.trans k2), fun x fr2 F2 S2 c d' σ2 H2 k2 => xc x fr2 F2 S2 c d' σ2 H2 (k'.trans k2)⟩, xc⟩
  · exact hw.elim

theorem pg_two {xs : List Expr} {k n : Nat} {pt : Pos} {t : TGs} (hc : X.calm = true) (hs : PGs X xs t) (hn : (assignEach xs X.env).length = n) (hst : (assignEach xs X.env).findIdx? (·.1) = none) :
    PG X (.Tuple xs k pt) (fun v σ H Q => ∃ a vs, v = .ref a ∧ (SqL X.K H a vs ∨ SqT X.K H a vs) ∧ vs.length = n ∧ t vs σ H Q) := by
  refine ⟨fun pins s σ H v u Q I r h => ?_⟩
  obtain ⟨a, vs, rfl, hq | hq, hl, ht⟩ := h
  · exact (pg_lst (pos := pt) (k := k) hc hs hn hst).run pins s σ H _ u Q I r ⟨a, vs, rfl, hq, hl, ht⟩
  · exact (pg_tup (pos := pt) (k := k) hc hs hn hst).run pins s σ H _ u Q I r ⟨a, vs, rfl, hq, hl, ht⟩
theorem s_asgt {xs : List Expr} {e : Expr} {k n : Nat} {pt : Pos} {we : WEx} {ws : List D → Fr → Sto → Po → Prop} (hK : X.K = G.K) (hc : X.calm = true) (he : PE X e (LE G W we)) (hs : PGs X xs (LGs G W ws)) (hn : (assignEach xs X.env).length = n) (hst : (assignEach xs X.env).findIdx? (·.1) = none)
    (nc : noComp e = true) (hw : swappedStores [.Tuple xs k pt] e X.env = pure none) :
    PS X (.Assign [.Tuple xs k pt] e pos) (LS G W (fun fr S P => we fr S (fun d S1 => match sv S1 d with
    | some ds => ds.length = n ∧ ws ds fr S1 P
    | none => False) (fun x S1 => P.xc x fr S1))) := by
  refine ⟨fun pins s σ H D I hh => (ps_asg (pos := pos) he (pg_two (pt := pt) (k := k) hc hs hn hst) (no_swap1 nc) hw).run pins s σ H D I ?_⟩
  obtain ⟨fr, F, S, P, rf, rs, hw, fs⟩ := hh
  refine ⟨fr, F, S, _, _, rf, rs, hw, fun d F1 S1 v H1 k1 rs1 r1 h1 => ?_, fs.fx rf⟩
  (try dsimp only at h1)
  split at h1
  · rename_i ds ed
    obtain ⟨q, vs, rfl, hq, r⟩ := sv_ok rs1 r1 ed
    exact ⟨q, vs, rfl, by rw [hK]; exact hq, by rw [← r.len]; exact h1.1, ds, fr, F1, S1, P, r, rf.tk k1.toRK, rs1, h1.2, (fs.tk k1).nx, (fs.tk k1).xc⟩
  · exact h1.elim
theorem s_sub {o i e : Expr} {wo wi we : WEx} {p : Pos} (hu : X.A.units + 64 < cLine) (ho : PE X o (LE G W wo)) (hi : PE X i (LE G W wi)) (he : PE X e (LE G W we)) (hp : plainIx i = true) (nc : noComp e = true) :
    PS X (.Assign [.Subscript o i p] e pos) (LS G W (fun fr S P => we fr S (fun d S1 => wo fr S1 (fun x S2 => wi fr S2 (fun y S3 => wpPut x y d S3 fun S4 => P.nx fr S4) (fun x S3 => P.xc x fr S3)) (fun x S2 => P.xc x fr S2)) (fun x S1 => P.xc x fr S1))) := by
  refine ⟨fun pins s σ H D I hh => (ps_asg (pos := pos) he (pg_sub (pos := p) ho hi (sb_put (G := G.toGd) hu) (plain_sub hp)) (no_swap1 nc) (by cases e <;> rfl)).run pins s σ H D I ?_⟩
  obtain ⟨fr, F, S, P, rf, rs, hw, fs⟩ := hh
  exact ⟨fr, F, S, _, _, rf, rs, hw, fun d F1 S1 v H1 k1 rs1 r1 h1 => sub_red r1 (rf.tk k1.toRK) rs1 h1 (fs.tk k1).nx (fs.tk k1).xc, fs.fx rf⟩

theorem s_fset {P : PD} {n : Nat} {o e : Expr} {f : Str} {wo we : WEx} {p : Pos} (Fa : Facts X G P n) (ho : PE X o (LE G W wo)) (he : PE X e (LE G W we)) (nc : noComp e = true) :
    PS X (.Assign [.Attribute o f p] e pos) (LS G W (fun fr S Pq => we fr S (fun d S1 => wo fr S1 (fun x S2 => wpFset P.toPg f x d S2 fun S3 => Pq.nx fr S3) (fun x S2 => Pq.xc x fr S2)) (fun x S1 => Pq.xc x fr S1))) := by
  refine ⟨fun pins s σ H D I hh => (ps_fld (pos := pos) (pos' := p) (f := f) ho he (no_swap nc)).run pins s σ H D I ?_⟩
  obtain ⟨fr, F, S, Pq, rf, rs, hw, fs⟩ := hh
  refine ⟨fr, F, S, _, _, rf, rs, hw, fun d F1 S1 v H1 k1 rs1 r1 h1 => ⟨fr, F1, S1, _, _, rf.tk k1.toRK, rs1, h1, fun x F2 S2 u H2 k2 rs2 r2 h2 => ?_, (fs.tk k1).fx (rf.tk k1.toRK)⟩, fs.fx rf⟩
  unfold wpFset at h2
  (try dsimp only at h2)
  split at h2
  · rename_i q
    split at h2
    · rename_i c fs2 e0
      obtain ⟨⟨hx, hl⟩, h2⟩ := h2
      cases Rp.ref.mp r2
      obtain ⟨_, dx, vs, hH, hf⟩ := rs2.st _ _ e0
      obtain ⟨c1, c2⟩ := Fa.fld c f hx
      have rd := Rp.tk k2.toRK _ _ r1
      obtain ⟨p1, p2⟩ := putF_rps (x := f) rd hf.1 hf.2
      have kp : TK ⟨F2, S2, H2⟩ ⟨F2, S2.set q (.ins c (putFD f d fs2)), upd H2 q (.ins (G.ca c) dx (putF f v vs))⟩ := TK.put rs2 e0
      have hlen : vs.length = fs2.length := by have := congrArg List.length hf.1; simpa using this
      refine ⟨q, _, dx, vs, rfl, hH, c1, c2, by omega, ?_⟩
      exact fs.nx fr F2 _ σ _ ((k1.trans k2).trans kp) (rf.tk ((k1.trans k2).trans kp).toRK) (rs2.put e0 ⟨dx, _, upd_same, p1, Rps.tk kp.toRK _ _ p2⟩) h2
    · exact h2.elim
  · exact h2.elim
end
end L4

namespace L4
open PySem PySem.Spec PyProof.Rows L2
section
variable {X : Cx} {G : Gx} {W : WX} {a b t : Expr} {wa wb wt : WEx} {pos : Pos}

theorem s_raise0 {P : PD} {n k : Nat} {x : Str} {p q : Pos} (Fa : Facts X G P n) (ex : P.cls[k]? = some x) (ee : P.exc k = true) (hf : P.xfs k = []) (hc : X.calm = true) (tk : L2N.Takes X W) (hg : Gl X x) (hd : (x == ("__debug__" : Str)) = false) :
    PS X (.Raise (some (.Call (.Name x p) [] [] q)) none pos) (LS G W (fun fr S Pq => Pq.xc ⟨.cls k, []⟩ fr S)) := by
  have F := Fa.exc k x ex ee
  have C := Fa.cls k x ex
  obtain ⟨bmB, B, newId, initId, xf, xi⟩ : ∃ bmB B newId initId, ExcBaseFacts B newId initId bmB ∧ PySem.W.excIn X.K (G.ca k) bmB newId = true := by
    rcases F.make with ⟨_, h⟩ | ⟨h, _⟩
    · exact h
    · exact absurd hf h
  refine ⟨fun pins s σ H D I hh => (L2N.ps_raise (pos := pos) hc tk (L4T.pmk_none (pos := q) (p := p) xf xi C.gl C.kp (raises_own F.sub F.ty) hg hd)).run pins s σ H D I ?_⟩
  obtain ⟨fr, F1, S, Pq, rf, rs, hw, fs⟩ := hh
  exact fs.xc _ fr F1 S _ _ σ H (TK.refl _) rf rs ⟨rfl, .inl ⟨rfl, rfl⟩⟩ hw

theorem s_raise {P : PD} {n k : Nat} {x : Str} {p q : Pos} {e : Expr} {es : List Expr} {ws : WLs} (Fa : Facts X G P n) (ex : P.cls[k]? = some x) (ee : P.exc k = true) (hc : X.calm = true) (hr : Room 2 X.A) (tk : L2N.Takes X W) (hg : Gl X x) (hd : (x == ("__debug__" : Str)) = false)
    (ha : PA X (e :: es) (LA G W ws)) (hs : noStar e = true) (hs2 : es.all noStar = true) :
    PS X (.Raise (some (.Call (.Name x p) (e :: es) [] q)) none pos) (LS G W (fun fr S Pq => ws fr S (fun ds S1 => ((P.xfs k = [] ∨ ds.length = (P.xfs k).length) ∧ ds.length ≤ 900) ∧ Pq.xc ⟨.cls k, ((P.xfs k).zip ds).reverse⟩ fr S1) (fun x S1 => Pq.xc x fr S1))) := by
  have F := Fa.exc k x ex ee
  have C := Fa.cls k x ex
  rcases F.make with ⟨hf, bmB, B, newId, initId, xf, xi⟩ | ⟨hf, O, fI, fd, ps, h1, h2, h3, F1, hb⟩
  · refine ⟨fun pins s σ H D I hh => (L2N.ps_raise (pos := pos) hc tk (L4T.pmk_ownA (pos := q) (p := p) xf xi C.gl C.kp (raises_own F.sub F.ty) hg ha hd (star_cons hs) (star_any hs2))).run pins s σ H D I ?_⟩
    obtain ⟨fr, F1, S, Pq, rf, rs, hw, fs⟩ := hh
    refine ⟨fr, F1, S, _, _, rf, rs, hw, fun ds F2 S2 vs H2 k2 rs2 r2 h2 => ⟨by rw [← r2.len, sizeLine_eq]; have := h2.1.2; omega, ?_⟩, fs.fx rf⟩
    have h2 := h2.2
    rw [hf] at h2
    exact fs.xc _ fr F2 S2 _ _ σ H2 k2 (rf.tk k2.toRK) rs2 ⟨rfl, .inl ⟨rfl, rfl⟩⟩ h2
  · refine ⟨fun pins s σ H D I hh => (L2N.ps_raise (pos := pos) hc tk (L4T.pmk_oex (pos := q) (p := p) (dvs := []) (ds := []) O h1 h2 F1 hr hb .nil pass0 hg C.gl ha hd (star_cons hs) (star_any hs2))).run pins s σ H D I ?_⟩
    obtain ⟨fr, F2, S, Pq, rf, rs, hw, fs⟩ := hh
    refine ⟨fr, F2, S, _, _, rf, rs, hw, fun ds F3 S3 vs H3 k3 rs3 r3 h3 => ⟨by rw [← r3.len]; have := h3.1.2; omega, fun aa ha' => ?_⟩, fs.fx rf⟩
    obtain ⟨⟨hl, _⟩, h3⟩ := h3
    have hl : vs.length = (P.xfs k).length := by
      rw [← r3.len]
      rcases hl with z | z
      · exact absurd z hf
      · exact z
    rw [List.append_nil]
    refine ⟨aa, vs, rfl, hl, upd_same, fun dx hdx hne H' e1 e2 e3 => ⟨rfl, dx, _, e1, e2, by rw [upd_ne hne] at hdx; exact hdx, ?_⟩⟩
    rw [upd_ne hne] at hdx
    have eH : upd (L2.del H' aa) dx (.xd ((P.xfs k).zip vs).reverse) = upd H3 dx (.xd ((P.xfs k).zip vs).reverse) := by
      funext b
      by_cases hb : b = dx
      · rw [hb, upd_same, upd_same]
      · rw [upd_ne hb, upd_ne hb]
        by_cases hb2 : b = aa
        · rw [hb2, L2.del_same, ha']
        · rw [L2.del_ne hb2, e3 b hb2 hb, upd_ne hb2]
    rw [eH]
    have kk : TK ⟨F3, S3, H3⟩ ⟨insF F3 dx, S3, upd H3 dx (.xd ((P.xfs k).zip vs).reverse)⟩ := TK.layF rs3 hdx
    have kt := k3.trans kk
    refine fs.xc _ fr _ S3 _ _ σ _ kt (rf.tk kt.toRK) (rs3.layF hdx) ⟨rfl, .inr ⟨dx, _, rfl, insF.same, upd_same, ?_, ?_⟩⟩ h3
    · rw [List.map_reverse, List.map_reverse, zfst hl.symm, zfst (by rw [r3.len]; exact hl.symm)]
    · rw [List.map_reverse, List.map_reverse, zsnd hl.symm, zsnd (by rw [r3.len]; exact hl.symm)]
      exact (Rps.tk kk.toRK _ _ r3).rev

noncomputable def Gx.hx (G : Gx) (a : Addr) (oe : Obj) (i : Nat) (x : Exc) : Gx := { G with px := fun a' o' => a' = a ∧ o' = oe, xi := some (i, x) }

noncomputable def HdOk {P : PD} (n : Nat) (X : Cx) (G : Gx) (hs : IHs) (hds : List ExceptHandler) : Prop := ∃ l, L4T.HdsN X hds l ∧ ∀ (W : WX) (Dn : Ends) (Pq : Po) (m : Wd), FS G m Pq Dn W → ∀ (x : Exc) (fr' : Fr) (F' : Addr → Prop) (S' : Sto) (c' : Value) (d : Option Addr) (σ' : L2.St) (H' : Hp),
  TK m ⟨F', S', H'⟩ → RF G ⟨F', S', H'⟩ fr' σ' → RS G ⟨F', S', H'⟩ → RX G ⟨F', S', H'⟩ x c' d → wpHs (wpCall P n) P.toPg (G.xi.map (·.2)) hs x fr' S' Pq → L4T.wManyN X.K W Dn l c' d σ' H'
theorem hd_nil {P : PD} {n : Nat} : HdOk (P := P) n X G .nil [] := ⟨[], .nil, fun W Dn Pq m fs x fr' F' S' c' d σ' H' k' rf rs rx h => by
  unfold wpHs at h
  exact fs.xc x fr' F' S' c' d σ' H' k' rf rs rx h⟩
theorem hd_cons {P : PD} {n k : Nat} {x : Str} {np q : Pos} {b0 : Stmt} {suite : List Stmt} {hh : ISs} {r : IHs} {hds : List ExceptHandler} (Fa : Facts X G P n) (ex : P.cls[k]? = some x) (hk : P.exc k = true) (hg : Gl X x) (hd : (x == ("__debug__" : Str)) = false)
    (hsu : ∀ (a : Addr) (oe : Obj) (pn : List (Addr × Obj)), PSs (X.suite a ((a, oe) :: pn)) (b0 :: suite) (LS G Wno (wpSs (wpCall P n) P.toPg (G.xi.map (·.2)) hh))) (ih : HdOk (P := P) n X G r hds) :
    HdOk (P := P) n X G (.cons [k] none hh r) (.ExceptHandler (some (.Name x np)) none (b0 :: suite) q :: hds) := by
  have C := Fa.cls k x ex
  obtain ⟨l, hl, ih⟩ := ih
  refine ⟨(.ref (G.ca k), none, fun _ _ _ => LS G Wno (wpSs (wpCall P n) P.toPg (G.xi.map (·.2)) hh)) :: l, .cons ⟨hg, hd, .inl C.gl⟩ (fun a oe cls d pn _ _ => hsu a oe pn) hl, fun W Dn Pq m fs e fr' F' S' c d σ' H' k' rf' rs' rx h => ?_⟩
  unfold wpHs at h
  split at h
  · rename_i j ej
    obtain ⟨hj, h⟩ := h
    simp only [List.any_cons, List.any_nil, Bool.or_false] at h
    have hj2 := Fa.exm j k hj hk
    have ec : c = .ref (G.ca j) := by rw [rx.cls, ej]; rfl
    refine ⟨P.sub j k, by rw [ec]; exact hj2, fun hb => ?_, fun hb => ?_⟩
    · rw [if_pos hb] at h
      intro a ha
      exact ⟨fr', F', S', _, rf', rs', h, ⟨(fs.tk k').nx, (fs.tk k').rt, (fs.tk k').bk, (fs.tk k').ct, fun _ _ _ _ _ _ _ _ _ _ _ _ z => z.elim⟩⟩
    · rw [if_neg (by rw [hb]; decide)] at h
      exact ih W Dn Pq m fs e fr' F' S' c d σ' H' k' rf' rs' rx h
  · exact h.elim
theorem hd_consN {P : PD} {n k i : Nat} {x nm : Str} {np q : Pos} {b0 : Stmt} {suite : List Stmt} {hh : ISs} {r : IHs} {hds : List ExceptHandler} (Fa : Facts X G P n) (ex : P.cls[k]? = some x) (hk : P.exc k = true) (hg : Gl X x) (hd : (x == ("__debug__" : Str)) = false)
    (hi : X.N[i]? = some nm) (hln : X.env.kindOf nm = some .local) (hxi : G.xi = none)
    (hsu : ∀ (a : Addr) (oe : Obj) (cls : Value) (d : Option Addr) (pn : List (Addr × Obj)) (y : Exc), L2N.Zn cls d oe → (∃ vs, oe.data = .fields vs) → PSs (X.suite a ((a, oe) :: pn)) (b0 :: suite) (LS (G.hx a oe i y) Wno (wpSs (wpCall P n) P.toPg (some y) hh))) (ih : HdOk (P := P) n X G r hds) :
    HdOk (P := P) n X G (.cons [k] (some i) hh r) (.ExceptHandler (some (.Name x np)) (some nm) (b0 :: suite) q :: hds) := by
  have C := Fa.cls k x ex
  obtain ⟨l, hl, ih⟩ := ih
  refine ⟨(.ref (G.ca k), some i, fun a cls d D σ H => ∀ oe, L2N.Zn cls d oe → (∃ vs, oe.data = .fields vs) → ∃ y, LS (G.hx a oe i y) Wno (wpSs (wpCall P n) P.toPg (some y) hh) D σ H) :: l, .consN ⟨hg, hd, .inl C.gl⟩ hi hln
    (fun a oe cls d pn hz hv => ⟨fun pins s σ H D I hh => by obtain ⟨y, hl⟩ := hh oe hz hv; exact (hsu a oe cls d pn y hz hv).run pins s σ H D I hl⟩) hl, fun W Dn Pq m fs e fr' F' S' c d σ' H' k' rf' rs' rx h => ?_⟩
  unfold wpHs at h
  split at h
  · rename_i j ej
    obtain ⟨hj, h⟩ := h
    simp only [List.any_cons, List.any_nil, Bool.or_false] at h
    have hj2 := Fa.exm j k hj hk
    have ec : c = .ref (G.ca j) := by rw [rx.cls, ej]; rfl
    refine ⟨P.sub j k, by rw [ec]; exact hj2, fun hb => ?_, fun hb => ?_⟩
    · rw [if_pos hb] at h
      obtain ⟨hlt, h⟩ := h
      intro a ha oe hz hv
      have hset : ∀ (fr2 : Fr) (σ2 : L2.St) (m : Wd) (w : Option V), fr2.length = σ2.length → (∀ (j : Nat) (d : L4.D), fr2[j]? = some (some d) → ∃ v, σ2[j]? = some (some v) ∧ Rp G m d v) → ∀ (j : Nat) (d : L4.D), (fr2.set i none)[j]? = some (some d) → ∃ v, (σ2.set i w)[j]? = some (some v) ∧ Rp G m d v := by
        intro fr2 σ2 m w hl hat j d e
        by_cases hj : i = j
        · subst hj
          by_cases hl : i < fr2.length
          · rw [List.getElem?_set_self hl] at e; cases e
          · rw [List.getElem?_eq_none (by simpa using hl)] at e; cases e
        · rw [List.getElem?_set_ne hj] at e ⊢
          exact hat j d e
      have back : ∀ {fr2 : Fr} {σ2 : L2.St} {m : Wd}, RF (G.hx a oe i e) m fr2 σ2 → RF G m (fr2.set i none) (σ2.set i none) := fun {fr2 σ2 m} R =>
        ⟨by simp [R.len], hset fr2 σ2 m none R.len R.at_, fun j x z => by rw [hxi] at z; cases z⟩
      refine ⟨e, fr'.set i none, F', S', _, ⟨by simp [rf'.len], hset fr' σ' _ _ rf'.len rf'.at_, fun j x z => ?_⟩, rs', h, ⟨fun fr2 F2 S2 σ2 H2 k2 rf2 rs2 h2 => fs.nx _ F2 S2 _ H2 (k'.trans k2) (back rf2) rs2 h2, (fs.tk k').rt, fun fr2 F2 S2 σ2 H2 k2 rf2 rs2 h2 => fs.bk _ F2 S2 _ H2 (k'.trans k2) (back rf2) rs2 h2, fun fr2 F2 S2 σ2 H2 k2 rf2 rs2 h2 => fs.ct _ F2 S2 _ H2 (k'.trans k2) (back rf2) rs2 h2, fun _ _ _ _ _ _ _ _ _ _ _ _ z => z.elim⟩⟩
      cases z
      refine ⟨a, List.getElem?_set_self (by rw [← rf'.len]; exact hlt), j, oe, d, ej, ⟨rfl, rfl⟩, ⟨by rw [hz.1, ec]; rfl, hz.2.1⟩, hv, rx.fs⟩
    · rw [if_neg (by rw [hb]; decide)] at h
      exact ih W Dn Pq m fs e fr' F' S' c d σ' H' k' rf' rs' rx h
  · exact h.elim

theorem s_tryg {P : PD} {n : Nat} {hs : IHs} {el : ISs} {h0 : ExceptHandler} {hds : List ExceptHandler} {body orelse : List Stmt} {wb : WSt} (hst : X.stack = X.env :: X.outer) (hf : X.env.frame = some X.env.locals) (hN : X.N.Nodup) (tk : L2N.Takes X W)
    (hb : ∀ (W' : WX) (pn : List (Addr × Obj)) (xe : Value → Shared → Prop), L2N.Takes (X.tr pn xe) W' → PassesOwn (model X.prog X.w) X.A X.env xe → PSs (X.tr pn xe) body (LS G W' wb))
    (he : PSs X orelse (LS G W (wpSs (wpCall P n) P.toPg (G.xi.map (·.2)) el))) (hh : HdOk (P := P) n X G hs (h0 :: hds)) :
    PS X (.Try body (h0 :: hds) orelse [] pos) (LS G W (fun fr S Pq => wb fr S { nx := fun fr' S' => wpSs (wpCall P n) P.toPg (G.xi.map (·.2)) el fr' S' Pq, rt := Pq.rt, bk := Pq.bk, ct := Pq.ct, xc := fun e fr' S' => wpHs (wpCall P n) P.toPg (G.xi.map (·.2)) hs e fr' S' Pq })) := by
  obtain ⟨l, hl, ih⟩ := hh
  refine ⟨fun pins s σ H D I hq => (L4T.ps_try_gen (pos := pos) (tb := fun W' => LS G W' wb) he hst hf hN tk hb hl).run pins s σ H D I ?_⟩
  obtain ⟨fr, F, S, Pq, rf, rs, hw, fs⟩ := hq
  exact ⟨fr, F, S, _, rf, rs, hw, ⟨fun fr' F' S' σ' H' k' rf' rs' h => ⟨fr', F', S', Pq, rf', rs', h, fs.tk k'⟩, fs.rt, fs.bk, fs.ct, fun e fr' F' S' c d σ' H' k' rf' rs' rx h => ih W D Pq _ fs e fr' F' S' c d σ' H' k' rf' rs' rx h⟩⟩
end
end L4

namespace L4
open PySem PySem.Spec PyProof.Rows L2
section
variable {X : Cx} {a b : Expr}
theorem par_sw {env : Env} {x y : Str} {px py pt pt2 : Pos} {k1 k2 : Nat} (hk : env.scope.kind = .function) (hx : env.scope.names.lookup x = some .local) (hy : env.scope.names.lookup y = some .local) (hl : (py.line == px.line) = true) (hxy : x ≠ y)
    (ha : noStar a = true) (hb : noStar b = true) (hf : (foldedForSure 8 a && foldedForSure 8 b) = false) (hc : (constantsAlone 8 a && constantsAlone 8 b) = false) :
    swappedStores [.Tuple [.Name x px, .Name y py] k1 pt] (.Tuple [a, b] k2 pt2) env = pure (some [x, y]) := by
  have kx : env.kindOf x = some .local := hx
  have ky : env.kindOf y = some .local := hy
  have kb : env.blockKind = .function := by unfold Env.blockKind; rw [hk]; rfl
  have hl' : py.line = px.line := eq_of_beq hl
  have nd : ([x, y] : List Str).eraseDups.length = 2 := by
    have e : (y == x) = false := by simpa using fun h => hxy h.symm
    have e2 : (x == y) = false := by simpa using hxy
    simp [List.eraseDups, List.eraseDupsBy, List.eraseDupsBy.loop, e, e2]
  unfold swappedStores
  simp only [pure_bind]
  simp [kb, kx, ky, hl', nd, hf, hc, Expr.pos]
  intro h
  rcases h with h | h
  · cases a <;> first | (cases h; done) | (cases ha; done)
  · cases b <;> first | (cases h; done) | (cases hb; done)
end
noncomputable def swN (sc : Scope) (xs : List Expr) (v : Expr) : Bool := match v with
  | .Tuple vs _ _ => vs.all (foldedForSure 8) || xs.any (fun x => match x with
    | .Name id _ => !(sc.names.lookup id == some .local)
    | _ => true)
  | _ => true
theorem fm_lt {α β : Type} {f : α → Option β} : ∀ {xs : List α}, (xs.any fun x => (f x).isNone) = true → (xs.filterMap f).length < xs.length
  | [], h => by cases h
  | x :: xs, h => by
    rw [List.any_cons, Bool.or_eq_true] at h
    have hle : (xs.filterMap f).length ≤ xs.length := List.length_filterMap_le ..
    rw [List.filterMap_cons, List.length_cons]
    cases e : f x with
    | none => exact Nat.lt_succ_of_le hle
    | some y =>
      rcases h with h | h
      · rw [e] at h; cases h
      · have := fm_lt h
        show (y :: xs.filterMap f).length < _
        rw [List.length_cons]
        omega
theorem swN_ok {env : Env} {sc : Scope} {xs : List Expr} {k : Nat} {pt : Pos} {v : Expr} (hs : env.scope = sc) (h : swN sc xs v = true) : swappedStores [.Tuple xs k pt] v env = pure none := by
  subst hs
  unfold swN at h
  split at h
  · rename_i vs k2 p2
    unfold swappedStores
    simp only
    rw [Bool.or_eq_true] at h
    rcases h with h | h
    · simp only [h]
      repeat' split
      all_goals first | rfl | (simp_all; done)
    · split
      · rfl
      · split
        · rfl
        · split
          · rfl
          · rename_i hn
            exfalso
            apply hn
            refine (Bool.or_eq_true _ _).mpr (.inl (bne_iff_ne.mpr (Nat.ne_of_lt (fm_lt ?_))))
            obtain ⟨x, hx, hp⟩ := List.any_eq_true.mp h
            refine List.any_eq_true.mpr ⟨x, hx, ?_⟩
            cases x <;> first | rfl | skip
            rename_i id p
            dsimp only at hp ⊢
            have e : (env.kindOf id == some NameKind.local) = false := by
              simp only [Bool.not_eq_true'] at hp
              exact hp
            rw [e]
            rfl
  · cases v <;> first | rfl | (rename_i hx; exact absurd rfl (hx _ _ _))
theorem cell_sw {env : Env} {x : Str} {p : Pos} {l : Nat} {v : Expr} (h : env.kindOf x ≠ some .local) : swapsWith v (some (.Name x p)) l env = pure false := by
  have h' : (env.kindOf x == some NameKind.local) = false := by simpa using h
  cases v <;> first | rfl | (unfold swapsWith; simp [h'])
section
variable (P : PD)
mutual
noncomputable def chkA (c : Ct) : IT → Expr → Bool
  | .nm i, e => match e with
    | .Name x _ => decide (c.N[i]? = some x) && locC c x && freC c i
    | _ => false
  | .sub o i, e => match e with
    | .Subscript o' i' _ => chkE P c o o' && chkE P c i i' && plainIx i'
    | _ => false
noncomputable def chkAs (c : Ct) : ITs → List Expr → Bool
  | .nil, xs => xs.isEmpty
  | .cons t ts, xs => match xs with
    | x :: r => noStar x && chkA c t x && chkAs c ts r
    | [] => false
end
mutual
noncomputable def chkS (c : Ct) : IS → Stmt → Bool
  | .asg i e, st => match st with
    | .Assign [.Name x _] v _ => decide (c.N[i]? = some x) && locC c x && chkE P c e v && (noComp v || decide (c.sc.names.lookup x ≠ some .local)) && freC c i
    | _ => false
  | .asgc i e, st => match st with
    | .Assign [.Name x px] v _ => match v with
      | .ListComp _ _ scope pv => decide (c.N[i]? = some x) && decide (c.sc.names.lookup x = some .local) && (px.line == pv.line) && !(scope.names.any fun (n, k) => n == x && (k == .local || k == .cell)) && freC c i &&
          (match e with
          | .comp _ _ _ _ _ _ => chkE P c e v
          | _ => false)
      | _ => false
    | _ => false
  | .par i j a b, st => match st with
    | .Assign [.Tuple [.Name x px, .Name y py] _ _] (.Tuple [a', b'] _ _) _ => c.calm && decide (c.N[i]? = some x) && decide (c.N[j]? = some y) && decide (i ≠ j) && decide (x ≠ y) && decide (c.sc.names.lookup x = some .local) && decide (c.sc.names.lookup y = some .local) && (py.line == px.line) &&
        noStar a' && noStar b' && !(foldedForSure 8 a' && foldedForSure 8 b') && !(constantsAlone 8 a' && constantsAlone 8 b') && chkE P c a a' && chkE P c b b' && freC c i && freC c j
    | _ => false
  | .asgt ts e, st => match st with
    | .Assign [.Tuple xs _ _] v _ => c.calm && chkAs P c ts xs && chkE P c e v && noComp v && swN c.sc xs v
    | _ => false
  | .sub o i e, st => match st with
    | .Assign [.Subscript o' i' _] v _ => chkE P c o o' && chkE P c i i' && plainIx i' && chkE P c e v && noComp v
    | _ => false
  | .fset o f e, st => match st with
    | .Assign [.Attribute o' f' _] v _ => decide (f = f') && chkE P c o o' && chkE P c e v && noComp v
    | _ => false
  | .exp e, st => match st with
    | .Expr v _ => chkE P c e v && noComp v
    | _ => false
  | .ret e, st => match st with
    | .Return (some v) _ => chkE P c e v
    | _ => false
  | .retn, st => false
  | .ifs t a b, st => match st with
    | .If t' a' b' _ => (chkT P c t t' || (plainTest t' && chkE P c t t')) && chkSs c a a' && chkSs c b b'
    | _ => false
  | .fors tg it b, st => match st with
    | .For tg' it' b' [] _ => c.calm && chkG c tg tg' && chkI P c it it' tg' && noSet it' && (slotG tg).all (freC c) && chkSs c b b'
    | _ => false
  | .whil t b, st => match st with
    | .While t' b' [] _ => (chkT P c t t' || (plainTest t' && chkE P c t t')) && chkSs c b b'
    | _ => false
  | .rais k es, st => match st with
    | .Raise (some (.Call (.Name x _) xs [] _)) none _ => decide (P.cls[k]? = some x) && P.exc k && glnC c x && c.calm && (!xs.isEmpty || (P.xfs k).isEmpty) && chkEs P c es xs
    | _ => false
  | .raif _ _, _ => false
  | .tryo b hs, st => match st with
    | .Try b' hds [] [] _ => c.calm && !hds.isEmpty && chkSs c b b' && chkHs c hs hds
    | _ => false
  | .trye b hs el, st => false
  | .pass, st => false
  | .frz _, _ => false
noncomputable def chkSs (c : Ct) : ISs → List Stmt → Bool
  | .nil, xs => xs.isEmpty
  | .cons s ss, xs => match s with
    | .frz _ => chkSs c ss xs
    | s => match xs with
      | x :: r => chkS c s x && chkSs c ss r
      | [] => false
noncomputable def chkHs (c : Ct) : IHs → List ExceptHandler → Bool
  | .nil, hds => hds.isEmpty
  | .cons ks nm h r, hds => match hds with
    | .ExceptHandler (some (.Name x _)) yn (h0 :: hr) _ :: rest => (match ks with
      | [k] => decide (P.cls[k]? = some x) && P.exc k && glnC c x && (match nm with
        | none => yn.isNone && chkSs { c with calm := false } h (h0 :: hr)
        | some i => (match yn with
          | some y => decide (c.xi = none) && decide (c.N[i]? = some y) && decide (c.sc.names.lookup y = some .local) && chkSs { c with calm := false, xi := some i } h (h0 :: hr)
          | none => false)) && chkHs c r rest
      | _ => false)
    | _ => false
end
end
structure GoodS (X : Cx) (G : Gx) (P : PD) (n : Nat) (c : Ct) : Prop extends Good X G P n c where
  own : PassesOwn (model X.prog X.w) X.A X.env X.xe
  stk : X.stack = X.env :: X.outer
  frm : X.env.frame = some X.env.locals
  knd : X.env.scope.kind = .function
noncomputable abbrev wS (G : Gx) (P : PD) (n : Nat) : IS → WSt := wpS (wpCall P n) P.toPg (G.xi.map (·.2))
noncomputable abbrev wSs (G : Gx) (P : PD) (n : Nat) : ISs → WSt := wpSs (wpCall P n) P.toPg (G.xi.map (·.2))
section
variable {G : Gx} {P : PD} {n : Nat}
theorem GoodS.tr {X : Cx} {c : Ct} (g : GoodS X G P n c) (hc : c.calm = true) (pn : List (Addr × Obj)) (xe : Value → Shared → Prop) (h : PassesOwn (model X.prog X.w) X.A X.env xe) : GoodS (X.tr pn xe) G P n c :=
  ⟨⟨g.fx.other rfl rfl rfl rfl rfl, g.N, g.nd, g.sc, g.fn, g.gd, g.un, g.calm, g.room, g.xi, g.xg, fun a o z => absurd hc (by rw [(g.px a o z).2]; decide), g.rh, g.ht⟩, h, g.stk, g.frm, g.knd⟩
theorem GoodS.suite {X : Cx} {c : Ct} (g : GoodS X G P n c) (hc : c.calm = true) (a : Addr) (pn : List (Addr × Obj)) : GoodS (X.suite a pn) G P n { c with calm := false } :=
  ⟨⟨g.fx.other rfl rfl rfl rfl rfl, g.N, g.nd, g.sc, g.fn, g.gd, g.un, (fun h => nomatch h), (fun h => nomatch h), g.xi, g.xg, fun a o z => absurd hc (by rw [(g.px a o z).2]; decide), ⟨g.rh.dp, g.rh.un⟩, fun a o z => absurd hc (by rw [(g.px a o z).2]; decide)⟩, PassesOwn.never, g.stk, g.frm, g.knd⟩
theorem GoodS.suiteN {X : Cx} {c : Ct} (g : GoodS X G P n c) (a : Addr) (oe : Obj) (i : Nat) (y : Exc) (pn : List (Addr × Obj)) {cls : Value} {d : Option Addr} (hz : L2N.Zn cls d oe) (hv : ∃ vs, oe.data = .fields vs) : GoodS (X.suite a ((a, oe) :: pn)) (G.hx a oe i y) P n { c with calm := false, xi := some i } :=
  ⟨⟨g.fx.other rfl rfl rfl rfl rfl, g.N, g.nd, g.sc, g.fn, g.gd, g.un, (fun h => nomatch h), (fun h => nomatch h), (fun j x z => by cases z; rfl), (fun j z => by cases z; exact ⟨y, rfl⟩), fun a' o z => by obtain ⟨rfl, rfl⟩ := z; exact ⟨List.mem_cons_self .., rfl⟩, ⟨g.rh.dp, g.rh.un⟩, fun a' o z => by obtain ⟨rfl, rfl⟩ := z; obtain ⟨vs, e⟩ := hv; exact ⟨rfl, vs, e, hz.2.2 vs e⟩⟩, PassesOwn.never, g.stk, g.frm, g.knd⟩
theorem sA {X : Cx} {c : Ct} {W : WX} (g : Good X G P n c) (tk : L2N.Takes X W) : ∀ (t : IT) (x : Expr), chkA P c t x = true → PG X x (LG G W (wpA (wpCall P n) P.toPg (G.xi.map (·.2)) t))
  | .nm i, x, h => by
    simp only [chkA] at h
    split at h
    · simp only [Bool.and_eq_true, decide_eq_true_eq] at h
      obtain ⟨l1, l2⟩ := loc_ok g h.1.2
      exact g_name g.nd (by rw [g.N]; exact h.1.1) l1 l2 (g.fre h.2)
    · cases h
  | .sub o i, x, h => by
    simp only [chkA] at h
    split at h
    · simp only [Bool.and_eq_true] at h
      exact g_sub g.un64 (sE o X c W _ g tk h.1.1) (sE i X c W _ g tk h.1.2) h.2
    · cases h
theorem sAs {X : Cx} {c : Ct} {W : WX} (g : Good X G P n c) (tk : L2N.Takes X W) : ∀ (ts : ITs) (xs : List Expr), chkAs P c ts xs = true → PGs X xs (LGs G W (wpAs (wpCall P n) P.toPg (G.xi.map (·.2)) ts)) ∧ (assignEach xs X.env).length = ts.len ∧ (assignEach xs X.env).findIdx? (·.1) = none
  | .nil, xs, h => by
    unfold chkAs at h
    rw [List.isEmpty_iff.mp h]
    exact ⟨gs_nil, rfl, rfl⟩
  | .cons t ts, xs, h => by
    unfold chkAs at h
    cases xs with
    | nil => cases h
    | cons x r =>
      dsimp only at h
      simp only [Bool.and_eq_true] at h
      obtain ⟨h1, h2, h3⟩ := sAs g tk ts r h.2
      have ns : assignEach (x :: r) X.env = (false, assign x X.env) :: assignEach r X.env := by
        cases x <;> first | rfl | (cases h.1.1; done)
      rw [ns]
      refine ⟨gs_cons (sA g tk t x h.1.2) h1 (by rw [ns]; rfl), by simp [h2, ITs.len], ?_⟩
      rw [List.findIdx?_cons]
      simp [h3]
theorem sTst {X : Cx} {c : Ct} {W : WX} {t : IE} {x : Expr} (g : Good X G P n c) (tk : L2N.Takes X W) (h : (chkT P c t x || (plainTest x && chkE P c t x)) = true) : PT X x (LT G W (wE G P n t)) := by
  simp only [Bool.or_eq_true, Bool.and_eq_true] at h
  rcases h with h | h
  · exact sT t X c W x g tk h
  · exact qt_val (sE t X c W x g tk h.2) h.1
mutual
theorem sS : ∀ (st : IS) (G : Gx) (X : Cx) (c : Ct) (W : WX) (x : Stmt), GoodS X G P n c → L2N.Takes X W → chkS P c st x = true → PS X x (LS G W (wS G P n st))
  | .asg i e, G, X, c, W, x, g, tk, h => by
    unfold chkS at h
    split at h
    · simp only [Bool.and_eq_true, Bool.or_eq_true, decide_eq_true_eq] at h
      obtain ⟨⟨⟨⟨hN, hl⟩, he⟩, hs⟩, hfr⟩ := h
      obtain ⟨l1, l2⟩ := loc_ok g.toGood hl
      refine s_store (ps_set g.nd (by rw [g.N]; exact hN) l1 (sE e X c W _ g.toGood tk he) ?_ l2) (fun _ _ _ q => q) (g.fre hfr)
      rcases hs with hs | hs
      · exact no_swap hs
      · exact cell_sw (by unfold Env.kindOf; rw [g.sc]; exact hs)
    · cases h
  | .asgc i e, G, X, c, W, x, g, tk, h => by
    unfold chkS at h
    split at h
    · rename_i x0 px0 v0 sp0
      split at h
      · rename_i e0 gs0 scope0 pv0
        simp only [Bool.and_eq_true, decide_eq_true_eq, Bool.not_eq_true'] at h
        obtain ⟨⟨⟨⟨⟨hN, hl⟩, hln⟩, hsc⟩, hfr⟩, he⟩ := h
        split at he
        · rename_i fz tg it ts e' own
          unfold chkE at he
          split at he
          · rename_i elt tgE itE ifs scope p heq
            cases heq
            simp only [Bool.and_eq_true, decide_eq_true_eq, List.all_eq_true, List.contains_iff_mem] at he
            obtain ⟨⟨⟨⟨⟨⟨⟨⟨⟨hc, hb⟩, ho⟩, hsl⟩, hfo⟩, hset⟩, hi⟩, htg⟩, hts⟩, he⟩ := he
            have g0 := g.toGood
            have ok : BlkOk X.N X.env.scope scope0 (ownOf c.N own) := by
              rw [g.N, g.sc]
              exact blkOk_by hb
            have hl' := hl
            rw [← g.sc] at hl'
            have q := s_setLc (W := W) (spos := sp0) (fz := fz) (g.calm hc) g.nd (by rw [g.N]; exact hN) hl' (sw_true g.knd hl' hln hsc) (sI it X c W _ _ g0 tk hi) ok (fun s H C cl fp => sG (g0.blk hc s H _ C cl fp) tg _ htg)
              (fun s H C cl fp => sTs ts _ _ _ (g0.blk hc s H _ C cl fp) L4T.takes0 hts) (fun s H C cl fp => sE e' _ _ Wno _ (g0.blk hc s H _ C cl fp) L4T.takes0 he) hset (fun i hi => by rw [ho]; exact hsl i hi) (fun i hi => g0.fre (hfo i (by rw [ho] at hi; exact hi)))
            rw [ho] at q
            exact s_store q (fun _ _ _ q => q) (g.fre hfr)
          · cases he
        · cases he
      · cases h
    · cases h
  | .par i j a b, G, X, c, W, x, g, tk, h => by
    unfold chkS at h
    split at h
    · simp only [Bool.and_eq_true, decide_eq_true_eq, Bool.not_eq_true'] at h
      obtain ⟨⟨⟨⟨⟨⟨⟨⟨⟨⟨⟨⟨⟨⟨⟨hc, hi⟩, hj⟩, hij⟩, hxy⟩, hx⟩, hy⟩, hl⟩, na⟩, nb⟩, hf⟩, hk⟩, ha⟩, hb⟩, fi⟩, fj⟩ := h
      have hx' := hx
      have hy' := hy
      rw [← g.sc] at hx' hy'
      exact s_par (g.calm hc) g.nd (by rw [g.N]; exact hi) (by rw [g.N]; exact hj) hij hx' hy' (sE a X c W _ g.toGood tk ha) (sE b X c W _ g.toGood tk hb) na nb (par_sw g.knd hx' hy' hl hxy na nb hf hk) (g.fre fi) (g.fre fj)
    · cases h
  | .asgt ts e, G, X, c, W, x, g, tk, h => by
    unfold chkS at h
    split at h
    · simp only [Bool.and_eq_true] at h
      obtain ⟨⟨⟨⟨hc, hts⟩, he⟩, nc⟩, nt⟩ := h
      obtain ⟨h1, h2, h3⟩ := sAs g.toGood tk ts _ hts
      exact s_asgt g.fx.K (g.calm hc) (sE e X c W _ g.toGood tk he) h1 h2 h3 nc (swN_ok g.sc nt)
    · cases h
  | .sub o i e, G, X, c, W, x, g, tk, h => by
    unfold chkS at h
    split at h
    · simp only [Bool.and_eq_true] at h
      obtain ⟨⟨⟨⟨ho, hi⟩, hp⟩, he⟩, nc⟩ := h
      exact s_sub g.un64 (sE o X c W _ g.toGood tk ho) (sE i X c W _ g.toGood tk hi) (sE e X c W _ g.toGood tk he) hp nc
    · cases h
  | .fset o f e, G, X, c, W, x, g, tk, h => by
    unfold chkS at h
    split at h
    · simp only [Bool.and_eq_true, decide_eq_true_eq] at h
      obtain ⟨⟨⟨rfl, ho⟩, he⟩, nc⟩ := h
      exact s_fset g.fx (sE o X c W _ g.toGood tk ho) (sE e X c W _ g.toGood tk he) nc
    · cases h
  | .exp e, G, X, c, W, x, g, tk, h => by
    unfold chkS at h
    split at h
    · simp only [Bool.and_eq_true] at h
      exact s_exp (sE e X c W _ g.toGood tk h.1) h.2
    · cases h
  | .ret e, G, X, c, W, x, g, tk, h => by
    unfold chkS at h
    split at h
    · exact s_ret (sE e X c W _ g.toGood tk h)
    · cases h
  | .retn, G, X, c, W, x, g, tk, h => by unfold chkS at h; cases h
  | .ifs t a b, G, X, c, W, x, g, tk, h => by
    unfold chkS at h
    split at h
    · rw [Bool.and_eq_true, Bool.and_eq_true] at h
      exact s_if (sTst g.toGood tk h.1.1) (sSs a G X c W _ g tk h.1.2) (sSs b G X c W _ g tk h.2)
    · cases h
  | .fors tg it b, G, X, c, W, x, g, tk, h => by
    unfold chkS at h
    split at h
    · simp only [Bool.and_eq_true, List.all_eq_true] at h
      obtain ⟨⟨⟨⟨⟨hc, hg⟩, hi⟩, hs⟩, hfr⟩, hb⟩ := h
      exact s_for g.own (g.calm hc) (sI it X c W _ _ g.toGood tk hi) (sG g.toGood tg _ hg) (sSs b G X c W _ g tk hb) (fun i hi => g.fre (hfr i hi)) hs
    · cases h
  | .whil t b, G, X, c, W, x, g, tk, h => by
    unfold chkS at h
    split at h
    · rw [Bool.and_eq_true] at h
      exact s_while g.own (sTst g.toGood tk h.1) (sSs b G X c W _ g tk h.2)
    · cases h
  | .rais k es, G, X, c, W, x, g, tk, h => by
    unfold chkS at h
    split at h
    · rename_i x0 p0 ys p1 p2
      simp only [Bool.and_eq_true, decide_eq_true_eq, Bool.or_eq_true, Bool.not_eq_true', List.isEmpty_iff] at h
      obtain ⟨⟨⟨⟨⟨hx, he⟩, hg⟩, hc⟩, hne⟩, hes⟩ := h
      obtain ⟨gl, hd⟩ := gln_ok g.toGood hg
      have ha := sEs es X c W _ g.toGood tk hes
      have hst := chkEs_star hes
      cases ys with
      | nil =>
        cases es with
        | nil =>
          have hf : P.xfs k = [] := by
            rcases hne with z | z
            · cases z
            · exact z
          refine ⟨fun pins s σ H D I hh => (s_raise0 (q := p1) (p := p0) (pos := p2) g.fx hx he hf (g.calm hc) tk gl hd).run pins s σ H D I ?_⟩
          obtain ⟨fr, F, S, Pq, rf, rs, hw, fs⟩ := hh
          refine ⟨fr, F, S, Pq, rf, rs, ?_, fs⟩
          have hw : (_ ∧ Pq.xc ⟨.cls k, ((P.xfs k).zip []).reverse⟩ fr S) := hw
          have h2 := hw.2
          rw [hf] at h2
          exact h2
        | cons e1 es1 => unfold chkEs at hes; cases hes
      | cons y ys =>
        rw [List.all_cons, Bool.and_eq_true] at hst
        exact s_raise g.fx hx he (g.calm hc) ((g.room hc).mono (by unfold lev; omega)) tk gl hd ha hst.1 hst.2
    · cases h
  | .raif _ _, G, X, c, W, x, g, tk, h => by unfold chkS at h; cases h
  | .tryo b hs, G, X, c, W, x, g, tk, h => by
    unfold chkS at h
    split at h
    · rename_i b' hds p0
      simp only [Bool.and_eq_true, Bool.not_eq_true'] at h
      obtain ⟨⟨⟨hc, hne⟩, hb⟩, hh⟩ := h
      match hds, hne, hh with
      | h0 :: hds, _, hh =>
        have q := s_tryg (el := .nil) (orelse := []) (pos := p0) g.stk g.frm g.nd tk (fun W' pn xe tk' own => sSs b G (X.tr pn xe) c W' _ (g.tr hc pn xe own) tk' hb) s_nil (sHs hs G X c _ g hc hh)
        refine ⟨fun pins s σ H D I hq => q.run pins s σ H D I ?_⟩
        obtain ⟨fr, F, S, Pq, rf, rs, hw, fs⟩ := hq
        exact ⟨fr, F, S, Pq, rf, rs, hw, fs⟩
    · cases h
  | .trye b hs el, G, X, c, W, x, g, tk, h => by unfold chkS at h; cases h
  | .pass, G, X, c, W, x, g, tk, h => by unfold chkS at h; cases h
  | .frz _, G, X, c, W, x, g, tk, h => by unfold chkS at h; cases h
theorem sSs : ∀ (ss : ISs) (G : Gx) (X : Cx) (c : Ct) (W : WX) (xs : List Stmt), GoodS X G P n c → L2N.Takes X W → chkSs P c ss xs = true → PSs X xs (LS G W (wSs G P n ss))
  | .nil, G, X, c, W, xs, g, tk, h => by
    unfold chkSs at h
    rw [List.isEmpty_iff.mp h]
    exact s_nil
  | .cons s ss, G, X, c, W, xs, g, tk, h => by
    unfold chkSs at h
    split at h
    · rename_i i
      have ih := sSs ss G X c W xs g tk h
      exact s_frz ih
    · cases xs with
      | nil => cases h
      | cons x r =>
        dsimp only at h
        rw [Bool.and_eq_true] at h
        exact s_cons (w1 := wS G P n s) (w2 := wSs G P n ss) (sS s G X c W x g tk h.1) (sSs ss G X c W r g tk h.2)
theorem sHs : ∀ (hs : IHs) (G : Gx) (X : Cx) (c : Ct) (hds : List ExceptHandler), GoodS X G P n c → c.calm = true → chkHs P c hs hds = true → HdOk (P := P) n X G hs hds
  | .nil, G, X, c, hds, g, hc, h => by
    unfold chkHs at h
    rw [List.isEmpty_iff.mp h]
    exact hd_nil
  | .cons ks nm hh r, G, X, c, hds, g, hc, h => by
    unfold chkHs at h
    split at h
    · rename_i x np yn h0 hr q rest
      split at h
      · rename_i k
        simp only [Bool.and_eq_true, decide_eq_true_eq] at h
        obtain ⟨⟨⟨⟨hx, he⟩, hg⟩, hm⟩, hrest⟩ := h
        obtain ⟨gl, hd⟩ := gln_ok g.toGood hg
        have ih := sHs r G X c rest g hc hrest
        cases nm with
        | none =>
          dsimp only at hm
          rw [Bool.and_eq_true] at hm
          obtain ⟨hy, hsu⟩ := hm
          cases yn with
          | some y => cases hy
          | none => exact hd_cons g.fx hx he gl hd (fun a oe pn => sSs hh G (X.suite a ((a, oe) :: pn)) _ Wno _ (g.suite hc a _) L4T.takes0 hsu) ih
        | some i =>
          dsimp only at hm
          split at hm
          · rename_i y
            simp only [Bool.and_eq_true, decide_eq_true_eq] at hm
            obtain ⟨⟨⟨hxi, hN⟩, hln⟩, hsu⟩ := hm
            have gx : G.xi = none := by
              cases z : G.xi with
              | none => rfl
              | some w =>
                have := g.xi w.1 w.2 z
                rw [hxi] at this
                cases this
            exact hd_consN g.fx hx he gl hd (by rw [g.N]; exact hN) (by unfold Env.kindOf; rw [g.sc]; exact hln) gx (fun a oe cls d pn y hz hv => sSs hh (G.hx a oe i y) (X.suite a ((a, oe) :: pn)) _ Wno _ (g.suiteN a oe i y pn hz hv) L4T.takes0 hsu) ih
          · cases hm
      · cases h
    · cases h
end
end
end L4

namespace L4
open PySem PySem.Spec PyProof.Rows L2

structure BaseI (K : PySem.W.Frag) (LE : Addr) : Prop where
  rd : PySem.W.readsIn K LE (.type "type") = true
  ga : PySem.W.specialIn K (.ref LE) "__getattribute__" = some (some (.builtin "type.__getattribute__"))
  at_ : PySem.W.findCls K (.ref LE) (.type "type") "__init__" = some (.val (.builtin "ValueError.__init__"))
section
variable {X : Cx} {p1 p2 pos : Pos}
theorem pe_leinit {le : Str} {LE : Addr} {e : Expr} {es : List Expr} {ta : TA} (B : BaseI X.K LE) (hg : Gl X le) (hm : X.mg le = some (.ref LE)) (hd : (le == ("__debug__" : Str)) = false) (ha : PA X (e :: es) ta) (hs : noStar e = true) (hs2 : es.all noStar = true)
    (hl : (p2.endLine == pos.line) = true) (h28 : (e :: es).length < 28) : PE X (.Call (.Attribute (.Name le p1) "__init__" p2) (e :: es) [] pos) (tVeI X.K ta) := by
  obtain ⟨pl, ht⟩ := meth_eq (x := "__init__") (o := .Name le p1) (es := e :: es) (kws := []) (nm := []) (env := X.env) (apos := p2) (pos := pos) rfl (by rw [List.all_cons, hs, hs2]; rfl) rfl hl (by simpa using h28)
  refine ⟨fun pins s σ H Q I h => ?_⟩
  refine PySem.W.methodCall_KW (pl := pl) (ld_glob I hg hm ?_ hd) ht
  refine PySem.W.method_cls I.kIn B.ga (PySem.W.cls_value I.kIn B.rd B.at_ (by decide +kernel) ?_)
  show wpAny _ _ (callWith pos (Value.builtin "ValueError.__init__") [] (backTo pos (starEach (e :: es) X.env)) []) _ _ _
  refine PyProof.Rows.callWith_method1 (thn (ha.run pos pins _ σ H _ (I.tok _) h) fun us s1 ⟨vs, H1, I1, r1, a, C, ws, ev, hl, T, ea, q⟩ => ?_) (star_cons hs) (star_any hs2)
  subst ev
  cases r1 with
  | @cons _ u0 _ ur ra rw' =>
    obtain rfl : u0 = Value.ref a := ra
    have hlen : ur.length ≤ sizeLine := by
      rw [← Paired.length rw', sizeLine_eq]
      omega
    exact oinit_ok T I1 ea hlen fun s' J => ⟨.non, H1, J, rfl, q⟩

noncomputable def initC (self : Str) : List Str → List Stmt → Bool
  | [], sts => sts.isEmpty
  | f :: fs, sts => match sts with
    | .Assign [.Attribute (.Name s _) f' _] (.Name v _) _ :: r => decide (s = self) && decide (f' = f) && decide (v = f) && initC self fs r
    | _ => false

noncomputable def tFl (K : PySem.W.Frag) (fs : List Str) (j : Nat) : TS := fun D σ H => ∃ (a C : Addr) (xs : List V), σ[0]? = some (some (.ref a)) ∧ (∀ i x, xs[i]? = some x → σ[j + i]? = some (some x)) ∧ xs.length = fs.length ∧ OexC K C ∧ (∀ f ∈ fs, PySem.W.findIn K (.ref C) f = some none) ∧
  ((fs ≠ [] ∧ H a = some (exo a C none) ∧ fs.length ≤ 900 ∧ ∀ dx, H dx = none → dx ≠ a → ∀ H', H' a = some (exo a C (some dx)) → H' dx = some (exd dx (fs.zip xs).reverse) → (∀ b, b ≠ a → b ≠ dx → H' b = H b) → D.nx σ H') ∨
    ∃ (dx : Addr) (fs0 : List (Str × V)), H a = some (exo a C (some dx)) ∧ H dx = some (exd dx fs0) ∧ dx ≠ a ∧ fs0.length + fs.length ≤ 901 ∧ ∀ H', H' a = some (exo a C (some dx)) → H' dx = some (exd dx ((fs.zip xs).reverse ++ fs0)) → (∀ b, b ≠ a → b ≠ dx → H' b = H b) → D.nx σ H')
theorem init_fields {self : Str} (hs0 : X.N[0]? = some self) (vs0 : Vis X.env.scope self) (ns0 : nmC self = true) : ∀ (fs : List Str) (j : Nat) (sts : List Stmt), initC self fs sts = true → (∀ i f, fs[i]? = some f → X.N[j + i]? = some f ∧ Vis X.env.scope f ∧ nmC f = true) → PSs X sts (tFl X.K fs j)
  | [], j, sts, h, hf => by
    unfold initC at h
    rw [List.isEmpty_iff.mp h]
    refine ⟨fun pins s σ H D I hh => pss_nil.run pins s σ H D I ?_⟩
    obtain ⟨a, C, xs, h0, h1, h2, O, hn, hc⟩ := hh
    rcases hc with ⟨z, _⟩ | ⟨dx, fs0, e1, e2, ne, _, q⟩
    · exact absurd rfl z
    · have hx : xs = [] := by cases xs with
        | nil => rfl
        | cons x xs => cases h2
      subst hx
      exact q H e1 e2 fun _ _ _ => rfl
  | f :: fs, j, sts, h, hf => by
    unfold initC at h
    split at h
    · rename_i s p3 f' p4 v p5 p6 r
      simp only [Bool.and_eq_true, decide_eq_true_eq] at h
      obtain ⟨⟨⟨rfl, rfl⟩, rfl⟩, hr⟩ := h
      obtain ⟨q1, q2, q3⟩ := nm_ok ns0
      obtain ⟨f1, f2, f3⟩ := hf 0 _ rfl
      obtain ⟨g1, g2, g3⟩ := nm_ok f3
      have ih := init_fields hs0 vs0 ns0 fs (j + 1) r hr fun i f e => by
        have := hf (i + 1) f (by simpa using e)
        rw [show j + 1 + i = j + (i + 1) by omega]
        exact this
      refine ⟨fun pins s σ H D I hh => (pss_cons (ps_ost (p' := p4) (pos := p6) (pe_var (pos := p3) hs0 vs0 q1 q2) (pe_var (pos := p5) (i := j) (by simpa using f1) f2 g1 g2) (no_swap rfl)) ih).run pins s σ H D I ?_⟩
      obtain ⟨a, C, xs, h0, h1, h2, O, hn, hc⟩ := hh
      cases xs with
      | nil => cases h2
      | cons x xs =>
        have hx : σ[j]? = some (some x) := by simpa using h1 0 x rfl
        have hrest : ∀ i y, xs[i]? = some y → σ[j + 1 + i]? = some (some y) := fun i y e => by
          rw [show j + 1 + i = j + (i + 1) by omega]
          exact h1 (i + 1) y (by simpa using e)
        have hlen : xs.length = fs.length := by simpa using h2
        have hnr : ∀ g ∈ fs, PySem.W.findIn X.K (.ref C) g = some none := fun g hg => hn g (List.mem_cons_of_mem _ hg)
        refine ⟨x, hx, .ref a, h0, a, C, rfl, O, hn _ (List.mem_cons_self ..), ?_⟩
        rcases hc with ⟨_, ea, hl9, q⟩ | ⟨dx, fs0, e1, e2, ne, hl9, q⟩
        · refine .inl ⟨ea, fun dx hdx hne => ⟨a, C, xs, h0, hrest, hlen, O, hnr, .inr ⟨dx, [(_, x)], upd_same, by rw [upd_ne hne]; exact upd_same, hne, by simp at hl9 ⊢; omega, fun H' k1 k2 k3 => q dx hdx hne H' k1 ?_ fun b hb hb2 => ?_⟩⟩⟩
          · rw [List.zip_cons_cons, List.reverse_cons]
            exact k2
          · rw [k3 b hb hb2, upd_ne hb, upd_ne hb2]
        · refine .inr ⟨dx, fs0, e1, e2, by simp at hl9; omega, a, C, xs, h0, hrest, hlen, O, hnr, .inr ⟨dx, (_, x) :: fs0, by rw [upd_ne ne.symm]; exact e1, upd_same, ne, by simp at hl9 ⊢; omega, fun H' k1 k2 k3 => q H' k1 ?_ fun b hb hb2 => ?_⟩⟩
          · rw [List.zip_cons_cons, List.reverse_cons, List.append_assoc]
            exact k2
          · rw [k3 b hb hb2, upd_ne hb2]
    · cases h
end

noncomputable def initB (le self : Str) (fs : List Str) (sc : Scope) : List Stmt → Bool
  | .Expr (.Call (.Attribute (.Name l _) nm p2) [.Name s _, .Constant (.str t) _ _] [] pos) _ :: r => decide (l = le) && decide (nm = "__init__") && decide (s = self) && (p2.endLine == pos.line) && glC sc le && nmC le && nmC self && visC sc self && fs.all (fun f => visC sc f && nmC f) && initC self fs r
  | _ => false

structure InitAt (K : PySem.W.Frag) (mg : Str → Option Value) (C : Addr) (fs : List Str) : Prop where
  oex : OexC K C
  nof : ∀ f ∈ fs, PySem.W.findIn K (.ref C) f = some none
  ne : fs ≠ []
  few : fs.length ≤ 900
  def_ : ∃ (fI : Addr) (fd : FuncData) (self le : Str) (LE : Addr), PySem.W.findIn K (.ref C) "__init__" = some (some (.ref fI)) ∧ PySem.W.typeIn K (.ref fI) = some (.type "function") ∧ Binds K fd (self :: fs) [] ∧ BaseI K LE ∧ mg le = some (.ref LE) ∧
    ∃ (oc : Value) (od an : Option Addr) (osl : Array (Option Value)) (name qual : Str) (params : Arguments) (body : List Stmt) (scope : Scope) (dV kV doc pm cdv ct : Value),
      fd = PySem.W.fnOf name qual params body scope dV kV doc pm an cdv ct ∧ K.lookup fI = some ⟨oc, od, .func fd, osl⟩ ∧ PySem.W.codeIn K cdv qual = true ∧ FnScope (self :: fs) (self :: fs) scope ∧ initB le self fs scope body = true
theorem visS {sc : Scope} {x : Str} (h : visC sc x = true) : Vis sc x := by
  unfold visC at h
  split at h
  · rename_i e; exact .inl e
  · rename_i e; exact .inr (.inl e)
  · rename_i e; exact .inr (.inr e)
  · cases h
theorem init_fn {prog : Program} {w : World} {K : PySem.W.Frag} {mg : Str → Option Value} {base : Heap} {C : Addr} {fs : List Str} (A : InitAt K mg C fs) : ∃ fI fd ps, PySem.W.findIn K (.ref C) "__init__" = some (some (.ref fI)) ∧ PySem.W.typeIn K (.ref fI) = some (.type "function") ∧ ps.length = fs.length + 1 ∧ FnOk prog w K mg base CX0 1 fI fd ps (spI C fs) ∧ Binds K fd ps [] := by
  obtain ⟨fI, fd, self, le, LE, h1, h2, hb, B, hle, oc, od, an, osl, name, qual, params, body, scope, dV, kV, doc, pm, cdv, ct, rfl, lk, hcd, sc, chk⟩ := A.def_
  refine ⟨fI, _, self :: fs, h1, h2, rfl, ?_, hb⟩
  have spl : ∀ vs H Q E, spI C fs vs H Q E → vs.length = (self :: fs).length := fun vs H Q E h => by
    obtain ⟨a, xs, rfl, hl, _⟩ := h
    simp [hl]
  refine ⟨spl, fun A1 outer s H args us vs Q E hr e0 hbt rv h => ?_⟩
  have hl := spl _ _ _ _ h
  have kin : K.In s.heap := e0.mod.kin.keeps fun b o q => (e0.bs b o q).1
  have lim := e0.mod.nolimit.keeps fun b o q => (e0.bs b o q).1
  have knd : ∀ y ∈ (self :: fs).zip us, scope.names.lookup y.1 = some .local ∨ (scope.names.lookup y.1 = some .cell ∧ ((cellsFrom (s.heap.objs.size + 1) scope.names []).lookup y.1).isSome = true) := by
    rintro ⟨y, v⟩ hy
    rcases sc.par y (List.of_mem_zip hy).1 with q | q
    · exact .inl q
    · exact .inr ⟨q, PySem.W.cellsFrom_some _ _ _ (.inl q)⟩
  refine codeAny_call_function hr.depth (kin _ _ lk) rfl sc.co sc.gen rfl (PySem.W.codeRec_of kin hcd) (hbt _ _ _ _ ?_)
  refine wpAny_newFunctionEnv_cells sc.kind knd fun env he s1 ic => ?_
  subst he
  refine ⟨lim.keeps ic.toInCall.keep, codeAny_func ?_⟩
  have I := inv_start (CX := CX0) (w := w) (P := prog) (E := E) sc hr.hd e0 hl rv ic
  obtain ⟨a, xs, rfl, hxl, ha, q⟩ := h
  have run : ∃ t, PSs (cxOf CX0 prog w K mg base (self :: fs) qual scope fI cdv A1 outer s H E) body t ∧ t { nx := fun _ H' => Q .non H', rt := Q } (L2.start (self :: fs) (.ref a :: xs)) H := by
    unfold initB at chk
    split at chk
    · rename_i l p1 nm p2 s0 p3 t k p4 pos p6 r
      simp only [Bool.and_eq_true, decide_eq_true_eq, List.all_eq_true] at chk
      obtain ⟨⟨⟨⟨⟨⟨⟨⟨⟨rfl, rfl⟩, rfl⟩, hln⟩, hgl⟩, hnl⟩, hns⟩, hvs⟩, hfs⟩, hr2⟩ := chk
      obtain ⟨l1, l2, l3⟩ := nm_ok hnl
      obtain ⟨n1, n2, n3⟩ := nm_ok hns
      have gl : Gl (cxOf CX0 prog w K mg base (s0 :: fs) qual scope fI cdv A1 outer s H E) l := by
        unfold Gl Env.kindOf
        unfold glC at hgl
        split at hgl
        · rename_i e; exact e
        · cases hgl
      refine ⟨_, pss_cons (ps_expr (pos := p6) (pe_leinit (p1 := p1) B gl hle l1 (pa_cons (pe_var (i := 0) (pos := p3) rfl (visS hvs) n1 n2) (pa_cons pe_str pa_nil (star_cons rfl)) (star_cons rfl)) rfl rfl hln (Nat.lt_of_sub_eq_succ rfl)) (no_swap rfl)) (init_fields (self := s0) rfl (visS hvs) hns fs 1 r hr2 fun i f e => ?_), ?_⟩
      · have hm := List.mem_of_getElem? e
        have hh := hfs f hm
        refine ⟨?_, visS hh.1, hh.2⟩
        show (s0 :: fs)[1 + i]? = some f
        rw [Nat.add_comm, List.getElem?_cons_succ]; exact e
      · refine ⟨.ref a, rfl, a, C, [.str t], rfl, by simp, A.oex, ha, a, C, xs, rfl, fun i x e => ?_, hxl, A.oex, A.nof, .inl ⟨A.ne, ha, A.few, fun dx hdx hne H' k1 k2 k3 => q dx hdx hne H' k1 k2 k3⟩⟩
        unfold L2.start
        rw [Nat.add_comm, List.getElem?_append_left (by simp; have := (List.getElem?_eq_some_iff.mp e).1; omega), List.map_cons, List.getElem?_cons_succ, List.getElem?_map, e]
        rfl
    · cases chk
  obtain ⟨t, hb2, ht⟩ := run
  refine wpAny_mono (hb2.run [] s1 (L2.start (self :: fs) (.ref a :: xs)) H { nx := fun _ H' => Q .non H', rt := Q } I ht) (fun fl s' hs => ?_) fun _ _ z => z
  match fl, hs with
  | .ret u, ⟨v, σ', H', J, rw', q⟩ => exact ⟨v, H', J.os, J.bare, J.base, J.hok, rw', q⟩
  | .next, ⟨σ', H', J, q⟩ => exact ⟨V.non, H', J.os, J.bare, J.base, J.hok, rfl, q⟩
  | .brk, ⟨_, _, _, q⟩ => exact q.elim
  | .cont, ⟨_, _, _, q⟩ => exact q.elim
end L4

namespace L4
open PySem PySem.Spec PyProof.Rows L2
noncomputable def ctOf (f : Fn) (scope : Scope) : Ct := ⟨f.N, scope, fun _ => true, !f.xa, if f.xa then some 0 else none⟩

structure DefAt (K : PySem.W.Frag) (G : Gd) (P : PD) (k : Nat) (f : Fn) (fd : FuncData) : Prop where
  rcd : ∃ (oc : Value) (od an : Option Addr) (osl : Array (Option Value)) (name qual : Str) (params : Arguments) (body : List Stmt) (scope : Scope) (dV kV doc pm cdv ct : Value),
    fd = PySem.W.fnOf name qual params body scope dV kV doc pm an cdv ct ∧ K.lookup (G.fa k) = some ⟨oc, od, .func fd, osl⟩ ∧ PySem.W.codeIn K cdv qual = true ∧ FnScope f.N f.ps scope ∧ chkSs P (ctOf f scope) f.body body = true
  bnd : Binds K fd f.ps []
  kwb : ∀ q ∈ f.kw, ∃ dvs : List Value, (∃ vs, Vals vs dvs ∧ ∀ m, Rps G m q.2.2.2 vs) ∧ ∀ (s : Shared) (us ws : List Value), K.In s.heap → us.length = q.1 → ws.length = q.2.1.length → BindsTo s fd ⟨us, q.2.1.zip ws⟩ (f.ps.zip (pick q.2.2.1 (us ++ ws ++ dvs)))

structure Top (K : PySem.W.Frag) (mg : Str → Option Value) (G : Gd) (P : PD) : Prop where
  kg : K = G.K
  fns : ∀ k f, P.fns[k]? = some f → ∃ fd, DefAt K G P k f fd
  kp : ∀ k, PySem.W.keepIn K (.ref (G.fa k)) = true
  gl : ∀ k f, P.fns[k]? = some f → f.name ∈ P.gls → mg f.name = some (.ref (G.fa k))
  blt : ∀ x, x ∈ P.blts → mg x = none
  cgl : ∀ k x, P.cls[k]? = some x → mg x = some (.ref (G.ca k))
  ckp : ∀ k x, P.cls[k]? = some x → PySem.W.keepIn K (.ref (G.ca k)) = true
  isi : IsiF K G P.toPg
  fld : ∀ k x, x ∈ P.flds k → Cls K (G.ca k) ∧ NoAttr K (G.ca k) x
  mth : ∀ k x j, P.mth k x = some j → Cls K (G.ca k) ∧ Meth K (G.ca k) x (G.fa j)
  make : ∀ c j, P.ini c = some j → Mk K (G.ca c) (G.fa j)
  gcs : ∀ (j : Nat) (x : Str) (d : D), P.gcs[j]? = some (x, d) → ∃ u v, mg x = some u ∧ RelV v u ∧ ∀ m, Rp G m d v
  xsub : ∀ k x, P.cls[k]? = some x → P.exc k = true → PySem.W.subIn K (.ref (G.ca k)) (.type "BaseException") = some true
  xty : ∀ k x, P.cls[k]? = some x → P.exc k = true → PySem.W.typeIn K (.ref (G.ca k)) = some (.type "type")
  xmk : ∀ k x, P.cls[k]? = some x → P.exc k = true → (P.xfs k = [] ∧ ∃ bmB B newId initId, ExcBaseFacts B newId initId bmB ∧ PySem.W.excIn K (G.ca k) bmB newId = true) ∨ InitAt K mg (G.ca k) (P.xfs k)
  exm : ∀ i j, P.exc i = true → P.exc j = true → PySem.W.exmOne K (.ref (G.ca i)) (.ref (G.ca j)) = some (P.sub i j)
  xis : XisF K G P
section
variable {prog : Program} {w : World} {K : PySem.W.Frag} {mg : Str → Option Value} {base : Heap} {G : Gd} {P : PD}
theorem startD_rf {m : Wd} {ds : List D} {vs : List V} {N : List Str} (r : Rps G m ds vs) : RF { G with } m (startD N.length ds) (L2.start N vs) := by
  unfold startD L2.start
  refine ⟨by simp [r.len], fun i d e => ?_, fun i x e => by cases e⟩
  by_cases hi : i < ds.length
  · rw [List.getElem?_append_left (by simpa using hi), List.getElem?_map] at e
    cases e1 : ds[i]? with
    | none => rw [e1] at e; cases e
    | some d' =>
      rw [e1] at e
      cases e
      obtain ⟨v, h1, h2⟩ := r.get e1
      refine ⟨v, ?_, h2⟩
      rw [List.getElem?_append_left (by rw [List.length_map, ← r.len]; exact hi), List.getElem?_map, h1]
      rfl
  · rw [List.getElem?_append_right (by simpa using hi), List.getElem?_replicate] at e
    split at e <;> cases e
theorem facts_of (T : Top K mg G P) (hsm : SmD base) {n : Nat} (ih : ∀ k f fd, P.fns[k]? = some f → DefAt K G P k f fd → FnG prog w K mg base (lev n) (G.fa k) fd f.ps (SpD G P n k))
    (ihH : ∀ k f fd, P.fns[k]? = some f → f.xa = true → DefAt K G P k f fd → FnGH prog w K mg base (lev n) (G.fa k) fd f.ps (SpH G P n k)) (X : Cx) (h1 : X.prog = prog) (h2 : X.w = w) (h3 : X.K = K) (h4 : X.mg = mg) (h5 : X.base = base) : Facts X G P n := by
  subst h1 h2 h3 h4 h5
  refine ⟨T.kg, hsm, fun k f e => let ⟨fd, d⟩ := T.fns k f e; ⟨fd, ih k f fd e d, d.bnd, d.kwb⟩, fun k f e hx => let ⟨fd, d⟩ := T.fns k f e; ⟨fd, ihH k f fd e hx d, d.bnd⟩, T.kp, T.gl, T.blt, fun k x e => ⟨T.cgl k x e, T.ckp k x e⟩, T.isi, T.fld, T.mth, T.make, T.gcs, fun k x e ee => ⟨T.xsub k x e ee, T.xty k x e ee, ?_⟩, T.exm, T.xis⟩
  rcases T.xmk k x e ee with h | h
  · exact .inl h
  · exact .inr ⟨h.ne, h.oex, init_fn h⟩
theorem spD_len {n k : Nat} {f : Fn} (e : P.fns[k]? = some f) : ∀ vs H Q E, SpD G P n k vs H Q E → vs.length = f.ps.length := fun vs H Q E h => by
  obtain ⟨f', _, _, _, _, _, e', hl, _⟩ := h
  rw [e] at e'
  cases e'.1
  exact hl

theorem sound1 (T : Top K mg G P) (hsm : SmD base) {n : Nat} (fa : ∀ X : Cx, X.prog = prog → X.w = w → X.K = K → X.mg = mg → X.base = base → Facts X G P n) : ∀ (k : Nat) (f : Fn) (fd : FuncData), P.fns[k]? = some f → DefAt K G P k f fd → FnG prog w K mg base (lev (n + 1)) (G.fa k) fd f.ps (SpD G P (n + 1) k) := by
    intro k f fd e d
    refine ⟨spD_len e, fun A outer s H args us vs Q E hg hr e0 rv hb h => ?_⟩
    have hl := spD_len e _ _ _ _ h
    obtain ⟨f', ds, F, S, Qd, Ed, ⟨e', hxa⟩, _, rs, r, hw, fe, fx⟩ := h
    rw [e] at e'; cases e'
    obtain ⟨oc, od, an, osl, name, qual, params, body, scope, dV, kV, doc, pm, cdv, ct, rfl, lk, hcd, sc, chk⟩ := d.rcd
    have hct : ctOf f scope = ⟨f.N, scope, fun _ => true, true, none⟩ := by unfold ctOf; rw [hxa]; rfl
    unfold wpCall at hw
    rw [e] at hw
    dsimp only at hw
    rw [hxa] at hw
    have hw2 := hw.2
    rw [if_neg (by decide)] at hw2
    have kin : K.In s.heap := e0.mod.kin.keeps fun b o q => (e0.bs b o q).1
    have lim := e0.mod.nolimit.keeps fun b o q => (e0.bs b o q).1
    have knd : ∀ y ∈ f.ps.zip us, scope.names.lookup y.1 = some .local ∨ (scope.names.lookup y.1 = some .cell ∧ ((cellsFrom (s.heap.objs.size + 1) scope.names []).lookup y.1).isSome = true) := by
      rintro ⟨y, v⟩ hy
      rcases sc.par y (List.of_mem_zip hy).1 with q | q
      · exact .inl q
      · exact .inr ⟨q, PySem.W.cellsFrom_some _ _ _ (.inl q)⟩
    refine codeAny_call_function hr.depth (kin _ _ lk) rfl sc.co sc.gen rfl (PySem.W.codeRec_of kin hcd) (hb _ _ _ _ ?_)
    refine wpAny_newFunctionEnv_cells sc.kind knd fun env he s1 ic => ?_
    subst he
    refine ⟨lim.keeps ic.toInCall.keep, codeAny_func ?_⟩
    -- the body's place
    have I := inv_start (CX := L2N.CX prog w) (w := w) (P := prog) (E := E) sc hr.hd e0 hl rv ic
    have hr' : Room (lev n + 1) (A.deeper (envOfC qual scope s.heap.objs.size (G.fa k) cdv)) := Room.deeper (k := lev n + 1) hr _
    have g : GoodS (cxOf (L2N.CX prog w) prog w K mg base f.N qual scope (G.fa k) cdv A outer s H E) { G with } P n (ctOf f scope) := by
      rw [hct]
      exact ⟨⟨fa _ rfl rfl rfl rfl rfl, rfl, sc.nd, rfl, fun _ _ => rfl, hg, (by have := hr'.un; show (A.deeper (envOfC qual scope s.heap.objs.size (G.fa k) cdv)).units + 65 < cLine; omega), fun _ => rfl, fun _ => hr', (fun i x z => by cases z), (fun i z => by cases z), fun a o z => z.elim, L2H.roomH_of hr', fun a o z => z.elim⟩, passes_of rfl, rfl, rfl, sc.kind⟩
    have tk : L2N.Takes (cxOf (L2N.CX prog w) prog w K mg base f.N qual scope (G.fa k) cdv A outer s H E) (fun cls d _ H' => E cls d H') := L2N.takes_of rfl rfl rfl rfl
    have body_ok := sSs f.body _ _ _ _ body g tk chk
    refine wpAny_mono (body_ok.run [] s1 (L2.start f.N vs) H { nx := fun _ H' => Q .non H', rt := Q } I ⟨startD f.N.length ds, F, S, _, startD_rf r, rs, hw2,
      ⟨fun fr F' S' σ' H' k' _ rs' q => ?_, fun d F' S' v H' k' rs' rd q => ?_, fun _ _ _ _ _ _ _ _ z => z.elim, fun _ _ _ _ _ _ _ _ z => z.elim, fun x fr F' S' c d' σ' H' k' _ rs' rx q => ?_⟩⟩) (fun fl s' hs => ?_) fun _ _ hs => hs
    · obtain ⟨S2, hle, q⟩ := q
      exact fe _ F' S2 _ H' (k'.trans (TK.drop hle)) (rs'.drop hle) (Rp.non.mpr rfl) q
    · obtain ⟨S2, hle, q⟩ := q
      exact fe _ F' S2 _ H' (k'.trans (TK.drop hle)) (rs'.drop hle) (Rp.tk (TK.drop hle).toRK _ _ rd) q
    · obtain ⟨S2, hle, q⟩ := q
      exact fx x F' S2 c d' H' (k'.trans (TK.drop hle)) (rs'.drop hle) (rx.tk (TK.drop hle).toRK) q
    match fl, hs with
    | .ret u, ⟨v, σ', H', J, rw', q⟩ => exact ⟨v, H', J.os, J.bare, J.base, J.hok, rw', q⟩
    | .next, ⟨σ', H', J, q⟩ => exact ⟨V.non, H', J.os, J.bare, J.base, J.hok, rfl, q⟩
    | .brk, ⟨_, _, _, q⟩ => exact q.elim
    | .cont, ⟨_, _, _, q⟩ => exact q.elim

theorem startH_rf {m : Wd} {ds : List D} {vs : List V} {N : List Str} {p : Addr × Obj} {x : Exc} (r : Rps G m ds vs) (hl : vs.length + 1 ≤ N.length) (hx : XAt (hxG G p 0 x) m x p.1) : RF (hxG G p 0 x) m (none :: startD (N.length - 1) ds) (L2.start N (.ref p.1 :: vs)) := by
  have h0 := startD_rf (G := G) (N := N.tail) (m := m) r
  have e1 : N.tail.length = N.length - 1 := List.length_tail
  rw [e1] at h0
  have e2 : L2.start N (.ref p.1 :: vs) = some (.ref p.1) :: L2.start N.tail vs := by
    unfold L2.start
    rw [List.map_cons, List.cons_append, e1, List.length_cons, show N.length - (vs.length + 1) = N.length - 1 - vs.length by omega]
  rw [e2]
  refine ⟨by simp [h0.len], fun i d e => ?_, fun i y e => ?_⟩
  · cases i with
    | zero => simp at e
    | succ i =>
      rw [List.getElem?_cons_succ] at e ⊢
      exact h0.at_ i d e
  · cases e
    exact ⟨p.1, rfl, hx⟩
theorem soundH (T : Top K mg G P) (hsm : SmD base) {n : Nat} (fa : ∀ X : Cx, X.prog = prog → X.w = w → X.K = K → X.mg = mg → X.base = base → Facts X G P n) : ∀ (k : Nat) (f : Fn) (fd : FuncData), P.fns[k]? = some f → f.xa = true → DefAt K G P k f fd → FnGH prog w K mg base (lev (n + 1)) (G.fa k) fd f.ps (SpH G P (n + 1) k) := by
  intro k f fd e hxa d
  have hlen : ∀ p vs H Q E, SpH G P (n + 1) k p vs H Q E → vs.length = f.ps.length := fun p vs H Q E h => by
    obtain ⟨f', _, _, _, _, _, _, ⟨e', _⟩, _, hl, _⟩ := h
    rw [e] at e'
    cases e'
    exact hl
  refine ⟨hlen, fun A outer s H args us vs Q E p hg hr hot hpin e0 rv hb h => ?_⟩
  have hl := hlen _ _ _ _ _ h
  obtain ⟨f', x, ds, vs', F, S, Qd, ⟨e', _⟩, rfl, _, rs, r, xat, hw, fe⟩ := h
  rw [e] at e'; cases e'
  obtain ⟨oc, od, an, osl, name, qual, params, body, scope, dV, kV, doc, pm, cdv, ct, rfl, lk, hcd, sc, chk⟩ := d.rcd
  have hct : ctOf f scope = ⟨f.N, scope, fun _ => true, false, some 0⟩ := by unfold ctOf; rw [hxa]; rfl
  unfold wpCall at hw
  rw [e] at hw
  dsimp only at hw
  rw [hxa] at hw
  have hw2 := hw.2
  rw [if_pos rfl] at hw2
  have kin : K.In s.heap := e0.mod.kin.keeps fun b o q => (e0.bs b o q).1
  have lim := e0.mod.nolimit.keeps fun b o q => (e0.bs b o q).1
  have knd : ∀ y ∈ f.ps.zip us, scope.names.lookup y.1 = some .local ∨ (scope.names.lookup y.1 = some .cell ∧ ((cellsFrom (s.heap.objs.size + 1) scope.names []).lookup y.1).isSome = true) := by
    rintro ⟨y, v⟩ hy
    rcases sc.par y (List.of_mem_zip hy).1 with q | q
    · exact .inl q
    · exact .inr ⟨q, PySem.W.cellsFrom_some _ _ _ (.inl q)⟩
  refine codeAny_call_function hr.depth (kin _ _ lk) rfl sc.co sc.gen rfl (PySem.W.codeRec_of kin hcd) (hb _ _ _ _ ?_)
  refine wpAny_newFunctionEnv_cells sc.kind knd fun env he s1 ic => ?_
  subst he
  refine ⟨lim.keeps ic.toInCall.keep, codeAny_func ?_⟩
  have I := L2H.inv_startH (CX := L2N.CX prog w) (w := w) (P := prog) (E := fun _ _ _ => False) sc hpin e0 hl rv ic
  have hr' : L2H.RoomH (lev n + 1) (A.deeper (envOfC qual scope s.heap.objs.size (G.fa k) cdv)) := L2H.RoomH.deeper (k := lev n + 1) hr _
  have hNl : vs'.length + 1 ≤ f.N.length := by
    have h1 := congrArg List.length sc.pre
    rw [List.length_take] at h1
    have h2 : vs'.length + 1 = f.ps.length := hl
    omega
  have g : GoodS (L2H.cxH (L2N.CX prog w) prog w K mg base f.N qual scope (G.fa k) cdv A outer s H (fun _ _ _ => False) p) (hxG G p 0 x) P n (ctOf f scope) := by
    rw [hct]
    exact ⟨⟨fa _ rfl rfl rfl rfl rfl, rfl, sc.nd, rfl, fun _ _ => rfl, hg, (by have := hr'.un; show (A.deeper (envOfC qual scope s.heap.objs.size (G.fa k) cdv)).units + 65 < cLine; omega), (fun z => nomatch z), (fun z => nomatch z), (fun i y z => by cases z; rfl), (fun i z => by cases z; exact ⟨x, rfl⟩),
      (fun a o z => by obtain ⟨rfl, rfl⟩ := z; exact ⟨List.mem_singleton.mpr rfl, rfl⟩), hr', fun a o z => by obtain ⟨rfl, rfl⟩ := z; exact hot⟩, passes_of rfl, rfl, rfl, sc.kind⟩
  have body_ok := sSs f.body _ _ _ Wno body g L4T.takes0 chk
  refine wpAny_mono (body_ok.run [] s1 (L2.start f.N (.ref p.1 :: vs')) H { nx := fun _ H' => Q .non H', rt := Q } I ⟨none :: startD (f.N.length - 1) ds, F, S, _, startH_rf r hNl xat, rs, hw2,
    ⟨fun fr F' S' σ' H' k' _ rs' q => ?_, fun d F' S' v H' k' rs' rd q => ?_, fun _ _ _ _ _ _ _ _ z => z.elim, fun _ _ _ _ _ _ _ _ z => z.elim, fun x fr F' S' c d' σ' H' k' _ rs' rx q => ?_⟩⟩) (fun fl s' hs => ?_) fun _ _ hs => hs
  · obtain ⟨S2, hle, q⟩ := q
    exact fe _ F' S2 _ H' (k'.trans (TK.drop hle)) (rs'.drop hle) (Rp.non.mpr rfl) q
  · obtain ⟨S2, hle, q⟩ := q
    exact fe _ F' S2 _ H' (k'.trans (TK.drop hle)) (rs'.drop hle) (Rp.tk (TK.drop hle).toRK _ _ rd) q
  · obtain ⟨S2, hle, q⟩ := q
    exact q.elim
  match fl, hs with
  | .ret u, ⟨v, σ', H', J, rw', q⟩ => exact ⟨v, H', J.os, J.bare, J.base, J.hok, rw', q⟩
  | .next, ⟨σ', H', J, q⟩ => exact ⟨V.non, H', J.os, J.bare, J.base, J.hok, rfl, q⟩
  | .brk, ⟨_, _, _, q⟩ => exact q.elim
  | .cont, ⟨_, _, _, q⟩ => exact q.elim

theorem sound2 (T : Top K mg G P) (hsm : SmD base) : ∀ n : Nat, (∀ (k : Nat) (f : Fn) (fd : FuncData), P.fns[k]? = some f → DefAt K G P k f fd → FnG prog w K mg base (lev n) (G.fa k) fd f.ps (SpD G P n k)) ∧
    ∀ (k : Nat) (f : Fn) (fd : FuncData), P.fns[k]? = some f → f.xa = true → DefAt K G P k f fd → FnGH prog w K mg base (lev n) (G.fa k) fd f.ps (SpH G P n k) := by
  intro n
  induction n with
  | zero =>
    refine ⟨fun k f fd e d => ⟨spD_len e, fun A outer s H args us vs Q E hg hr e0 rv hb h => ?_⟩, fun k f fd e hx d => ⟨fun p vs H Q E h => ?_, fun A outer s H args us vs Q E p hg hr hot hpin e0 rv hb h => ?_⟩⟩
    · obtain ⟨_, _, _, _, _, _, _, _, _, _, hw, _⟩ := h
      exact hw.elim
    · obtain ⟨_, _, _, _, _, _, _, _, _, _, _, _, _, hw, _⟩ := h
      exact hw.elim
    · obtain ⟨_, _, _, _, _, _, _, _, _, _, _, _, _, hw, _⟩ := h
      exact hw.elim
  | succ n ih =>
    have fa := fun (X : Cx) h1 h2 h3 h4 h5 => facts_of T hsm ih.1 ih.2 X h1 h2 h3 h4 h5
    exact ⟨sound1 T hsm fa, soundH T hsm fa⟩
theorem sound (T : Top K mg G P) (hsm : SmD base) (n k : Nat) (f : Fn) (fd : FuncData) (e : P.fns[k]? = some f) (d : DefAt K G P k f fd) : FnG prog w K mg base (lev n) (G.fa k) fd f.ps (SpD G P n k) := (sound2 T hsm n).1 k f fd e d
end
end L4

namespace L4
open PySem PySem.Spec PyProof.Rows L2
theorem rps_ints' {G : Gd} {m : Wd} : ∀ ns : List Int, Rps G m (ns.map D.int) (ns.map V.int)
  | [] => Rps.mk0
  | n :: ns => Rps.mk (Rp.int.mpr rfl) (rps_ints' ns)
section
variable {prog : Program} {w : World} {K : PySem.W.Frag} {mg mb : Str → Option Value} {G : Gd} {P : PD} {a : Addr} {vs : List Value} {ns : List Int} {s₁ : Shared} {n kl : Nat} {f : Fn} {fd : FuncData} {x : Str}

theorem law_from (T : Top K mg G P) (ef : P.fns[kl]? = some f) (d : DefAt K G P kl f fd) (hps : f.ps = [x]) (hr : Room (lev n) callerA) (hw : wpCall P n kl [.scr (ns.map D.int)] none (fun _ => none) (fun d _ => d = .bl true) (fun _ _ => False))
    (kin : K.In s₁.heap) (gl : s₁.heap.Ns mainGlobals mg) (bl : s₁.heap.Ns builtinsNs mb) (bb : ∀ x : Str, x ≠ "__name__" → mb x = bootBuiltins x) (lim : s₁.heap.NoLimit) (sm : SmD s₁.heap) (gn : s₁.gens = #[])
    (ha : s₁.heap.get? a = some { cls := .type "list", data := .seq vs.toArray })
    (H : Hp) (fz : LsV { G with K := K } ⟨fun b => H b ≠ none, fun _ => none, H⟩ a (ns.map V.int)) (ok : HOk prog w H s₁.heap) (only : ∀ b u, H b = some u → b = a ∧ ∃ o xs, u = .frz o (.lst xs)) (free : H a ≠ none → K.lookup a = none) :
    codeAny (model prog w) callerA (.call (.ref (G.fa kl)) ⟨[.ref a], []⟩) (fun r s' => r = .ok (.ret (.bool true)) ∧ OldK s₁.heap s'.heap ∧ s'.os = s₁.os ∧ AllBare s'.gens) s₁ := by
  -- what stands as a dict is not the script
  have dict_free : ∀ {b : Addr} {o : Obj} {es : Array DictEntry} {ep : Nat}, s₁.heap.get? b = some o → o.data = .dict es ep → H b = none := by
    intro b o es ep e dd
    cases q : H b with
    | none => rfl
    | some u =>
      obtain ⟨rfl, _⟩ := only b u q
      rw [ha] at e
      cases e
      exact nomatch (show Data.seq vs.toArray _ = Data.dict es ep from dd)
  have nsB : ∀ {b : Addr} {m : Str → Option Value}, s₁.heap.Ns b m → (hidT s₁.heap H).Ns b m := by
    rintro b m ⟨o, es, ep, e, dd, r⟩
    exact ⟨o, es, ep, hidT_get e (dict_free e dd), dd, r⟩
  have kinB : K.In (hidT s₁.heap H) := by
    intro b o e
    refine hidT_get (kin b o e) ?_
    cases q : H b with
    | none => rfl
    | some u =>
      obtain ⟨rfl, _⟩ := only b u q
      rw [free (by rw [q]; intro z; cases z)] at e
      cases e
  obtain ⟨mc, c1, c2⟩ := lim
  have e0 : Env0 prog w K mg (hidT s₁.heap H) callerA [] s₁ H := by
    refine ⟨rfl, ⟨kinB, nsB gl, ⟨mb, nsB bl, bb⟩, ⟨mc, nsB c1, c2⟩⟩, fun b o e => of_hidT e, Nat.le_of_eq (hidT_size _ _), trivial, fun b z => ?_, ok, .of_eq gn⟩
    exact nomatch (show b ∈ ([] : List Addr) from z)
  have G1 : K = G.K := T.kg
  have rs : RS G ⟨fun b => H b ≠ none, fun _ => none, H⟩ := ⟨fun _ _ z => (nomatch z), fun b z => Option.ne_none_iff_exists'.mp z⟩
  have rp : Rps G ⟨fun b => H b ≠ none, fun _ => none, H⟩ [.scr (ns.map D.int)] [.ref a] := Rps.mk (Rp.scr.mpr ⟨a, _, rfl, by have := fz; unfold LsV at this ⊢; rw [← G1]; exact this, rps_ints' ns⟩) Rps.mk0
  have sp : SpD G P n kl [.ref a] H (fun v _ => v = .bl true) (fun _ _ _ => False) := SpD.of rs rp hw (fun d F S v H' _ _ r q => by subst q; exact Rp.bl.mp r) (fun _ _ _ _ _ _ _ _ _ z => z)
  have F := sound (prog := prog) (w := w) (base := hidT s₁.heap H) T (let ⟨o, es, ep, e1, e2⟩ := sm; ⟨o, es, ep, hidT_get e1 (dict_free e1 e2), e2⟩) n kl f fd ef d
  have bt := d.bnd s₁ [.ref a] kin (by rw [hps]; rfl)
  rw [List.append_nil] at bt
  refine codeAny_mono (F.go callerA [] s₁ H ⟨[.ref a], []⟩ [.ref a] [.ref a] _ _ rfl hr e0 (.cons rfl .nil) bt sp) fun r s' h => ?_
  match r, h with
  | .error e, h =>
    obtain ⟨_, _, _, _, _, _, _, _, _, _, _, _, z⟩ := h
    exact z.elim
  | .ok .next, h => exact h.elim
  | .ok .brk, h => exact h.elim
  | .ok .cont, h => exact h.elim
  | .ok (.ret u), h =>
    obtain ⟨v, H', os, bare, un, hok', rv, q⟩ := h
    have q : v = .bl true := q
    subst q
    cases rv
    refine ⟨rfl, OldK.of_keep fun b o e => ?_, os, bare⟩
    cases q : H b with
    | none => exact un.keep b o e q (fun z => nomatch (show b ∈ ([] : List Addr) from z)) (by simp)
    | some u =>
      obtain ⟨rfl, ob, xs, rfl⟩ := only b u q
      obtain ⟨e1, _⟩ := ok b _ q
      obtain ⟨e2, _⟩ := hok' b _ (un.frzs b ob _ q)
      rw [e] at e1
      cases e1
      exact e2
theorem law_go (T : Top K mg G P) (ef : P.fns[kl]? = some f) (d : DefAt K G P kl f fd) (hps : f.ps = [x]) (hr : Room (lev n) callerA) (hw : wpCall P n kl [.scr (ns.map D.int)] none (fun _ => none) (fun d _ => d = .bl true) (fun _ _ => False))
    (kin : K.In s₁.heap) (gl : s₁.heap.Ns mainGlobals mg) (bl : s₁.heap.Ns builtinsNs mb) (bb : ∀ x : Str, x ≠ "__name__" → mb x = bootBuiltins x) (lim : s₁.heap.NoLimit) (sm : SmD s₁.heap) (gn : s₁.gens = #[])
    (ha : s₁.heap.get? a = some { cls := .type "list", data := .seq vs.toArray }) (hi : IntsAre vs ns) (hl : ns.length ≤ 63) :
    codeAny (model prog w) callerA (.call (.ref (G.fa kl)) ⟨[.ref a], []⟩) (fun r s' => r = .ok (.ret (.bool true)) ∧ OldK s₁.heap s'.heap ∧ s'.os = s₁.os ∧ AllBare s'.gens) s₁ := by
  have rv := vals_ints hi
  have lv := hi.length
  have hz : ns.length ≤ sizeLine := Nat.le_trans hl (by rw [sizeLine_eq]; decide)
  cases hk : K.lookup a with
  | some o =>
    have e := kin a o hk
    rw [ha] at e
    cases e
    refine law_from T ef d hps hr hw kin gl bl bb lim sm gn ha (fun _ => none) ?_ (fun _ _ z => nomatch z) (fun _ _ z => nomatch z) (fun z => absurd rfl z)
    exact .inr ⟨_, vs.toArray, _, hk, rfl, rfl, rfl, by rw [List.size_toArray, lv]; exact hz, rv⟩
  | none =>
    let fo : HO := .frz { cls := .type "list", data := .seq vs.toArray } (.lst (ns.map V.int))
    refine law_from T ef d hps hr hw kin gl bl bb lim sm gn ha (upd (fun _ => none) a fo) ?_ (fun b u z => ?_) (fun b u z => ?_) (fun _ => hk)
    · exact .inl ⟨(by show upd _ a fo a ≠ none; rw [upd_same]; intro z; cases z), .inr ⟨{ cls := .type "list", data := .seq vs.toArray }, (by dsimp only; rw [upd_same])⟩⟩
    · by_cases hb : b = a
      · subst hb
        rw [upd_same] at z
        cases z
        exact ⟨ha, by rw [List.length_map]; exact hz, vs, _, rv, ha⟩
      · rw [upd_ne hb] at z
        cases z
    · by_cases hb : b = a
      · subst hb
        rw [upd_same] at z
        cases z
        exact ⟨rfl, _, _, rfl⟩
      · rw [upd_ne hb] at z
        cases z
end

theorem walk_L {l : PySem.W.OpenLaw} {q : Program} {loose : List Str} {XP : (Str → Option Value) → Heap → Prop} {YP : World → Heap → Prop} {d : DefRec} {x : Str} {P : PD} {n kl : Nat} {f : Fn}
    (hn : l.most = some 63) (hdf : d.params.defaults = []) (hin : PyProof.Rows.importsNone q = true) (hr : Room (lev n) callerA) (ef : P.fns[kl]? = some f) (hps : f.ps = [x])
    (hT : ∀ (w : World) (mg : Str → Option Value) (h : Heap) (fa : Addr), YP w h → h.Ns mainGlobals mg → mg d.name = some (.ref fa) → ∃ (K : PySem.W.Frag) (G : Gd) (fd : FuncData), K.In h ∧ Top K mg G P ∧ DefAt K G P kl f fd ∧ G.fa kl = fa)
    (hw : ∀ ns : List Int, ns.length ≤ 63 → wpCall P n kl [.scr (ns.map D.int)] none (fun _ => none) (fun d _ => d = .bl true) (fun _ _ => False)) :
    PySem.W.WalkO q loose XP YP l.row.toRowW d [] (fun f vs => PySem.call f vs) := by
  refine Att.attach_call hn hdf fun w s₀ s₁ mg mb fa o pm cd doc a vs ns Gr Y ho hd hcd hmg hobj hints hlen hg => ?_
  obtain ⟨K, G, fd, kin, T, D, rfl⟩ := hT w mg _ fa Y Gr.T.g hmg
  exact law_go T ef D hps hr (hw ns hlen) kin Gr.T.g Gr.T.b Gr.T.builtins Gr.T.nolimit (let ⟨_, ⟨o, es, ep, e1, e2, _⟩, _⟩ := (Gr.T.seer hin).mods; ⟨o, es, ep, e1, e2⟩) hg hobj hints hlen

noncomputable def AllAt {α : Type} (Q : Nat → α → Prop) : Nat → List α → Prop
  | _, [] => True
  | i, x :: xs => Q i x ∧ AllAt Q (i + 1) xs
theorem allAt_get {α : Type} {Q : Nat → α → Prop} : ∀ {fs : List α} {i k : Nat} {f : α}, AllAt Q i fs → fs[k]? = some f → Q (i + k) f
  | [], _, _, _, _, e => by cases e
  | x :: xs, i, 0, f, h, e => by cases e; exact h.1
  | x :: xs, i, k + 1, f, h, e => by
    have := allAt_get (k := k) h.2 e
    rwa [Nat.add_assoc, Nat.add_comm 1 k] at this
theorem all_at {α : Type} {Q : Nat → α → Prop} {fs : List α} (h : AllAt Q 0 fs) (k : Nat) (f : α) (e : fs[k]? = some f) : Q k f := by
  have := allAt_get h e
  rwa [Nat.zero_add] at this
noncomputable def AllL {α : Type} (Q : α → Prop) : List α → Prop
  | [] => True
  | x :: xs => Q x ∧ AllL Q xs
theorem getD_all {α : Type} {Q : α → Prop} {d : α} : ∀ {xs : List α}, AllL Q xs → Q d → ∀ k, Q (xs.getD k d)
  | [], _, hd, k => hd
  | x :: xs, h, hd, 0 => h.1
  | x :: xs, h, hd, k + 1 => getD_all (xs := xs) h.2 hd k
noncomputable def AllT {α β : Type} (Q : α → β → Prop) : List α → List β → Prop
  | [], _ => True
  | _ :: _, [] => False
  | x :: xs, y :: ys => Q x y ∧ AllT Q xs ys
theorem getD_two {α β : Type} {Q : α → β → Prop} {d : α} {e : β} : ∀ {xs : List α} {ys : List β} {i : Nat}, xs.length = ys.length → AllT Q xs ys → Q d e → Q (xs.getD i d) (ys.getD i e)
  | [], [], i, _, _, hd => hd
  | x :: xs, y :: ys, 0, _, h, hd => h.1
  | x :: xs, y :: ys, k + 1, l, h, hd => getD_two (xs := xs) (ys := ys) (Nat.succ.inj l) h.2 hd
  | [], _ :: _, _, l, _, _ => by cases l
  | _ :: _, [], _, l, _, _ => by cases l
theorem hT_of {K : PySem.W.Frag} {G : Gd} {P : PD} {h : Heap} {mg : Str → Option Value} {kl : Nat} {f : Fn} {name : Str} {fa : Addr} (F : Top K mg G P ∧ ∃ fd, DefAt K G P kl f fd) (X : K.In h) (Gn : h.Ns mainGlobals mg) (hmg : mg name = some (.ref fa)) (hn : PySem.W.nsIn K mainGlobals name = some (some (.ref (G.fa kl)))) :
    ∃ (K : PySem.W.Frag) (G : Gd) (fd : FuncData), K.In h ∧ Top K mg G P ∧ DefAt K G P kl f fd ∧ G.fa kl = fa := by
  obtain ⟨T, fd, D⟩ := F
  have e := PySem.W.mg_of X Gn hn
  rw [hmg] at e
  cases e
  exact ⟨K, G, fd, X, T, D, rfl⟩

noncomputable def clsBody : Stmt → List Stmt
  | .ClassDef (body := b) .. => b
  | _ => []
end L4

namespace L4
open PySem PySem.Spec PyProof.Rows L2

section
variable (K : PySem.W.Frag)

noncomputable def clsB (C : Addr) (fl : List Str) (ms : List (Str × Addr)) : Bool :=
  PySem.W.plainGet K C Str.empty && PySem.W.hasDictIn K C && PySem.W.plainOver K C && decide (PySem.W.findIn K (.ref C) "__setattr__" = some (some (.builtin "object.__setattr__"))) &&
  fl.all (fun f => decide (PySem.W.findIn K (.ref C) f = some none)) && ms.all (fun m => decide (PySem.W.findIn K (.ref C) m.1 = some (some (.ref m.2))) && PySem.W.isFn K (.ref m.2) && PySem.W.keepIn K (.ref m.2))
noncomputable def mkB (C f : Addr) : Bool := PySem.W.makesIn K C && decide (PySem.W.findIn K (.ref C) "__init__" = some (some (.ref f))) && PySem.W.isFn K (.ref f) && PySem.W.keepIn K (.ref C)
noncomputable def insB (C : Addr) : Bool := decide (PySem.W.findIn K (.ref C) "__class__" = some (some (.builtin "object.__class__"))) && decide (PySem.W.specialIn K (.builtin "object.__class__") "__get__" = some (some (.builtin "getset_descriptor.__get__"))) &&
  decide (PySem.W.takesIn K (.builtin "object.__class__") = some true) && decide (PySem.W.mroIn K C (.type "object") = some true)

noncomputable def isiB (ca : Nat → Addr) (n : Nat) (sub : Nat → Nat → Bool) : Bool :=
  tyLs.all (fun t => (List.range n).all fun j => decide (PySem.W.kitOne K (.type t) (.ref (ca j)) = some false)) &&
  (List.range n).all (fun k => insB K (ca k) && (List.range n).all (fun j => decide (PySem.W.kitOne K (.ref (ca k)) (.ref (ca j)) = some (sub k j))) && clLs.all (fun u => decide (PySem.W.kitOne K (.ref (ca k)) (.type u) = some false))) &&
  (List.range n).all (fun c => tyLs.all (fun t => PySem.W.notFirst K (ca c) (.type t)) && (List.range n).all fun k => (sub k c && !(k == c)) || PySem.W.notFirst K (ca c) (.ref (ca k))) &&
  (List.range n).all (fun c => ["NoneType", "int", "str", "list", "tuple"].all (fun t => decide (PySem.W.subIn K (.ref (ca c)) (.type t) = some false)) && decide (PySem.W.subIn K (.ref (ca c)) (.type "object") = some true) && decide (PySem.W.findIn K (.ref (ca c)) "__ne__" = some (some (.builtin "object.__ne__"))))

noncomputable def exmB (ca : Nat → Addr) (n : Nat) (ex : Nat → Bool) (sub : Nat → Nat → Bool) : Bool :=
  (List.range n).all fun i => !ex i || (List.range n).all fun j => !ex j || decide (PySem.W.exmOne K (.ref (ca i)) (.ref (ca j)) = some (sub i j))
noncomputable def excB (C : Addr) : Bool := decide (PySem.W.subIn K (.ref C) (.type "BaseException") = some true) && decide (PySem.W.typeIn K (.ref C) = some (.type "type"))
noncomputable def exc0B (C : Addr) : Bool := PySem.W.excIn K C [.type "ValueError", .type "Exception", .type "BaseException", .type "object"] "ValueError.__new__"
noncomputable def oexB (C : Addr) : Bool := (match K.lookup C with
  | some ⟨.type t, _, .cls cd, sl⟩ => decide (t = "type") && (match cd.mro with
    | .ref C' :: bm => decide (C' = C) && PySem.HandSPX.refsVE bm
    | _ => false) && cd.hasDict && !cd.hasDel && (match sl with
    | ⟨[_, _, _, _, some (.builtin id), _]⟩ => decide (id = "ValueError.__new__")
    | _ => false)
  | _ => false) && decide (PySem.W.findIn K (.ref C) "__setattr__" = some (some (.builtin "object.__setattr__"))) && excB K C && PySem.W.keepIn K (.ref C)
theorem oexB_ok {C : Addr} (h : oexB K C = true) : OexC K C := by
  unfold oexB at h
  simp only [Bool.and_eq_true, decide_eq_true_eq] at h
  obtain ⟨⟨⟨h1, h2⟩, h3⟩, h4⟩ := h
  unfold excB at h3
  simp only [Bool.and_eq_true, decide_eq_true_eq] at h3
  refine ⟨?_, h2, h3.1, h3.2, h4⟩
  split at h1
  · rename_i t dd cd sl e
    simp only [Bool.and_eq_true, decide_eq_true_eq, Bool.not_eq_true'] at h1
    obtain ⟨⟨⟨⟨rfl, h5⟩, h6⟩, h8⟩, h7⟩ := h1
    obtain ⟨nm, bs, mro, N, q, hd, sn, sub, ab, col, hdel⟩ := cd
    dsimp only at h5 h6 h7 h8
    split at h5
    · rename_i C' bm
      simp only [Bool.and_eq_true, decide_eq_true_eq] at h5
      obtain ⟨rfl, h5⟩ := h5
      split at h7
      · rename_i k0 k1 k2 k3 id k5
        cases of_decide_eq_true h7
        subst h6
        subst h8
        exact ⟨nm, q, N, bs, bm, sn, sub, ab, col, dd, k0, k1, k2, k3, k5, e, h5⟩
      · cases h7
    · cases h5
  · cases h1
noncomputable def baseB (LE : Addr) : Bool := PySem.W.readsIn K LE (.type "type") && decide (PySem.W.specialIn K (.ref LE) "__getattribute__" = some (some (.builtin "type.__getattribute__"))) && (match PySem.W.findCls K (.ref LE) (.type "type") "__init__" with
  | some (.val u) => decide (u = .builtin "ValueError.__init__")
  | _ => false)
theorem baseB_ok {LE : Addr} (h : baseB K LE = true) : BaseI K LE := by
  unfold baseB at h
  simp only [Bool.and_eq_true, decide_eq_true_eq] at h
  refine ⟨h.1.1, h.1.2, ?_⟩
  have h2 := h.2
  split at h2
  · rename_i u e
    rw [e, of_decide_eq_true h2]
  · cases h2

noncomputable def iniB (C fI LE : Addr) (fs : List Str) : Bool := oexB K C && baseB K LE && fs.all (fun f => decide (PySem.W.findIn K (.ref C) f = some none)) && decide (PySem.W.findIn K (.ref C) "__init__" = some (some (.ref fI))) && decide (PySem.W.typeIn K (.ref fI) = some (.type "function")) && !fs.isEmpty && decide (fs.length ≤ 900)
theorem clsB_ok {C : Addr} {fl : List Str} {ms : List (Str × Addr)} (h : clsB K C fl ms = true) : Cls K C ∧ (∀ f ∈ fl, NoAttr K C f) ∧ ∀ m ∈ ms, Meth K C m.1 m.2 := by
  unfold clsB at h
  simp only [Bool.and_eq_true, decide_eq_true_eq, List.all_eq_true] at h
  obtain ⟨⟨⟨⟨⟨h1, h2⟩, h3⟩, h4⟩, h5⟩, h6⟩ := h
  exact ⟨⟨h1, h2, h3, h4⟩, fun f hf => h5 f hf, fun m hm => ⟨(h6 m hm).1.1, (h6 m hm).1.2, (h6 m hm).2⟩⟩
theorem mkB_ok {C f : Addr} (h : mkB K C f = true) : Mk K C f := by
  unfold mkB at h
  simp only [Bool.and_eq_true, decide_eq_true_eq] at h
  exact ⟨h.1.1.1, h.1.1.2, h.1.2, h.2⟩
theorem isiB_ok {G : Gd} {P : Pg} (hcl : ∀ k, k < P.ncl → Cls K (G.ca k)) (hi : ∀ k, (P.ini k).isSome = true → k < P.ncl) (h : isiB K G.ca P.ncl P.sub = true) : IsiF K G P := by
  unfold isiB at h
  simp only [Bool.and_eq_true, decide_eq_true_eq, List.all_eq_true, List.mem_range] at h
  obtain ⟨⟨⟨h1, h2⟩, h3⟩, h9⟩ := h
  refine ⟨fun t ht j hj => h1 t ht j hj, fun k hk => ?_, fun k hk j hj => ((h2 k (hi k hk)).1.2 j hj), fun k hk u hu => ((h2 k (hi k hk)).2 u hu), fun c hc => ⟨(h3 c hc).1, fun k hk hs => ?_⟩, fun c hc => ⟨(h9 c hc).1.1, (h9 c hc).1.2, (h9 c hc).2⟩⟩
  rotate_left
  · have h4 := (h3 c hc).2 k hk
    rw [Bool.or_eq_true] at h4
    rcases h4 with h4 | h4
    · exfalso
      rw [Bool.and_eq_true] at h4
      rcases hs with hs | hs
      · rw [hs] at h4; exact absurd h4.1 (by decide)
      · rw [hs] at h4; simp at h4
    · exact h4
  have := (h2 k (hi k hk)).1.1
  unfold insB at this
  simp only [Bool.and_eq_true, decide_eq_true_eq] at this
  exact ⟨hcl k (hi k hk), this.1.1.1, this.1.1.2, this.1.2, this.2⟩
theorem exmB_ok {ca : Nat → Addr} {n : Nat} {ex : Nat → Bool} {sub : Nat → Nat → Bool} (hn : ∀ i, ex i = true → i < n) (h : exmB K ca n ex sub = true) : ∀ i j, ex i = true → ex j = true → PySem.W.exmOne K (.ref (ca i)) (.ref (ca j)) = some (sub i j) := by
  intro i j hi hj
  unfold exmB at h
  have h1 := List.all_eq_true.mp h i (List.mem_range.mpr (hn i hi))
  rw [hi] at h1
  have h2 := List.all_eq_true.mp h1 j (List.mem_range.mpr (hn j hj))
  rw [hj] at h2
  simpa using h2

noncomputable def xctB (C : Addr) : Bool := (PySem.W.clsIn K C).isSome && decide (PySem.W.findIn K (.ref C) "__getattribute__" = some (some (.builtin "BaseException.__getattribute__"))) && decide (PySem.W.findIn K (.ref C) "__getattr__" = some none) && decide (PySem.W.subIn K (.ref C) (.type "BaseException") = some true) && insB K C && PySem.W.hasDictIn K C
noncomputable def xisB (ca : Nat → Addr) (n : Nat) (ex : Nat → Bool) (sub : Nat → Nat → Bool) (xfs : Nat → List Str) : Bool :=
  (List.range n).all fun i => !ex i || (xctB K (ca i) && decide (PySem.W.kitOne K (.ref (ca i)) (.type "ValueError") = some true) && (List.range n).all fun j => !ex j || (decide (PySem.W.kitOne K (.ref (ca i)) (.ref (ca j)) = some (sub i j)) && (xfs j).all fun f => decide (PySem.W.findIn K (.ref (ca i)) f = some none)))
theorem xisB_ok {G : Gd} {P : PD} {m : Nat} (hn : ∀ i, P.exc i = true → i < m) (h : xisB K G.ca m P.exc P.sub P.xfs = true) : XisF K G P := by
  unfold xisB at h
  have key : ∀ i, P.exc i = true → (xctB K (G.ca i) = true ∧ PySem.W.kitOne K (.ref (G.ca i)) (.type "ValueError") = some true) ∧ ∀ j, P.exc j = true → PySem.W.kitOne K (.ref (G.ca i)) (.ref (G.ca j)) = some (P.sub i j) ∧ ∀ f ∈ P.xfs j, PySem.W.findIn K (.ref (G.ca i)) f = some none := by
    intro i hi
    have h1 := List.all_eq_true.mp h i (List.mem_range.mpr (hn i hi))
    rw [hi] at h1
    simp only [Bool.not_true, Bool.false_or, Bool.and_eq_true, decide_eq_true_eq] at h1
    refine ⟨h1.1, fun j hj => ?_⟩
    have h2 := List.all_eq_true.mp h1.2 j (List.mem_range.mpr (hn j hj))
    rw [hj] at h2
    simp only [Bool.not_true, Bool.false_or, Bool.and_eq_true, decide_eq_true_eq, List.all_eq_true] at h2
    exact h2
  refine ⟨fun i hi => ?_, fun i j hi hj => ((key i hi).2 j hj).1, fun i hi => (key i hi).1.2, fun i j hi hj => ((key i hi).2 j hj).2⟩
  have t := (key i hi).1.1
  unfold xctB insB at t
  simp only [Bool.and_eq_true, decide_eq_true_eq] at t
  obtain ⟨⟨⟨⟨⟨t1, t2⟩, t3⟩, t4⟩, ⟨⟨t5, t6⟩, t7⟩, t8⟩, t9⟩ := t
  exact ⟨t1, t2, t3, t4, t5, t6, t7, t8, t9⟩

noncomputable def konB : Nat → D → Value → Bool
  | _, .non, u => match u with
    | .none => true
    | _ => false
  | _, .bl b, u => match u with
    | .bool c => b == c
    | _ => false
  | _, .int i, u => match u with
    | .int j _ => decide (i = j)
    | _ => false
  | _, .str x, u => match u with
    | .str y _ => decide (x = y) && PyData.strOk x
    | _ => false
  | n + 1, .tup ds, u => match u with
    | .ref a => match K.lookup a with
      | some ⟨.type t, none, .seq its _, _⟩ => decide (t = "tuple") && !keyish ds && decide (its.size ≤ sizeLine) && konBs n ds its.toList
      | _ => false
    | _ => false
  | _, _, _ => false
where konBs (n : Nat) : List D → List Value → Bool
  | [], us => us.isEmpty
  | d :: ds, us => match us with
    | u :: us => konB n d u && konBs n ds us
    | [] => false
end
theorem konB_ok {K : PySem.W.Frag} {fa ca : Nat → Addr} : ∀ (n : Nat) (d : D) (u : Value), konB K n d u = true → ∃ v, RelV v u ∧ ∀ m, Rp ⟨K, fa, ca⟩ m d v := by
  have flat : ∀ (n : Nat) (d : D) (u : Value), (∀ ds, d ≠ .tup ds) → konB K n d u = true → ∃ v, RelV v u ∧ ∀ m, Rp ⟨K, fa, ca⟩ m d v := by
    intro n d u hd h
    cases d with
    | non => unfold konB at h; split at h <;> first | exact ⟨.non, rfl, fun m => Rp.non.mpr rfl⟩ | cases h
    | bl b => unfold konB at h; split at h <;> first | (cases eq_of_beq h; exact ⟨.bl b, rfl, fun m => Rp.bl.mpr rfl⟩) | cases h
    | int i => unfold konB at h; split at h <;> first | (cases of_decide_eq_true h; exact ⟨.int i, ⟨_, rfl⟩, fun m => Rp.int.mpr rfl⟩) | cases h
    | str x =>
      unfold konB at h
      split at h
      · rw [Bool.and_eq_true] at h
        cases of_decide_eq_true h.1
        exact ⟨.str x, ⟨_, rfl⟩, fun m => Rp.str.mpr ⟨rfl, h.2⟩⟩
      · cases h
    | tup ds => exact absurd rfl (hd ds)
    | _ => unfold konB at h; cases h
  intro n
  induction n with
  | zero =>
    intro d u h
    cases d with
    | tup ds => unfold konB at h; cases h
    | _ => exact flat 0 _ u (fun _ z => by cases z) h
  | succ n ih =>
    have list : ∀ (ds : List D) (us : List Value), konB.konBs K n ds us = true → ∃ vs, Vals vs us ∧ ∀ m, Rps ⟨K, fa, ca⟩ m ds vs := by
      intro ds
      induction ds with
      | nil =>
        intro us h
        unfold konB.konBs at h
        rw [List.isEmpty_iff.mp h]
        exact ⟨[], .nil, fun m => Rps.mk0⟩
      | cons d ds ihd =>
        intro us h
        cases us with
        | nil => unfold konB.konBs at h; cases h
        | cons u us =>
          unfold konB.konBs at h
          rw [Bool.and_eq_true] at h
          obtain ⟨v, h1, h2⟩ := ih d u h.1
          obtain ⟨vs, h3, h4⟩ := ihd us h.2
          exact ⟨v :: vs, .cons h1 h3, fun m => Rps.mk (h2 m) (h4 m)⟩
    intro d u h
    cases d with
    | tup ds =>
      unfold konB at h
      split at h
      · rename_i a
        split at h
        · rename_i t its k sl e
          simp only [Bool.and_eq_true, decide_eq_true_eq, Bool.not_eq_true'] at h
          obtain ⟨⟨⟨rfl, h1⟩, h2⟩, h3⟩ := h
          obtain ⟨vs, h4, h5⟩ := list ds _ h3
          exact ⟨.ref a, rfl, fun m => Rp.tup.mpr ⟨a, vs, rfl, .inr ⟨_, its, _, e, rfl, rfl, rfl, h2, h4⟩, fun z => by (rw [h1] at z; cases z), h5 m⟩⟩
        · cases h
      · cases h
    | _ => exact flat _ _ u (fun _ z => by cases z) h
theorem lookup_mem {x : Str} {j : Nat} : ∀ {ms : List (Str × Nat)}, ms.lookup x = some j → (x, j) ∈ ms
  | [], h => by cases h
  | (y, k) :: ms, h => by
    rw [List.lookup_cons] at h
    cases e : x == y with
    | true =>
      rw [e] at h
      cases h
      rw [eq_of_beq e]
      exact List.mem_cons_self ..
    | false =>
      rw [e] at h
      exact List.mem_cons_of_mem _ (lookup_mem h)
theorem mth_ok {K : PySem.W.Frag} {C : Addr} {fl : List Str} {ms : List (Str × Nat)} {fa : Nat → Addr} (h : clsB K C fl (ms.map fun m => (m.1, fa m.2)) = true) : ∀ x j, ms.lookup x = some j → Cls K C ∧ Meth K C x (fa j) := fun x j e => by
  obtain ⟨h1, _, h3⟩ := clsB_ok K h
  exact ⟨h1, h3 (x, fa j) (List.mem_map.mpr ⟨(x, j), lookup_mem e, rfl⟩)⟩
theorem fld_ok {K : PySem.W.Frag} {C : Addr} {fl : List Str} {ms : List (Str × Addr)} (h : clsB K C fl ms = true) : ∀ x ∈ fl, Cls K C ∧ NoAttr K C x := fun x e => by
  obtain ⟨h1, h2, _⟩ := clsB_ok K h
  exact ⟨h1, h2 x e⟩
theorem no_fld {K : PySem.W.Frag} {C : Addr} : ∀ x ∈ ([] : List Str), Cls K C ∧ NoAttr K C x := fun x e => by cases e
theorem no_mth {K : PySem.W.Frag} {C : Addr} {fa : Nat → Addr} : ∀ x j, ([] : List (Str × Nat)).lookup x = some j → Cls K C ∧ Meth K C x (fa j) := fun x j e => by cases e
theorem ini_lt {n : Nat} : ∀ {l : List (Option Nat)} (k : Nat), (l.drop n).all Option.isNone = true → (l.getD k none).isSome = true → k < n
  | l, k, h, e => by
    rcases Nat.lt_or_ge k n with h1 | h1
    · exact h1
    · exfalso
      cases e2 : l[k]? with
      | none => rw [List.getD_eq_getElem?_getD, e2] at e; cases e
      | some o =>
        have hm : o ∈ l.drop n := List.mem_of_getElem? (i := k - n) (by rw [List.getElem?_drop, show n + (k - n) = k by omega]; exact e2)
        have := List.all_eq_true.mp h o hm
        rw [List.getD_eq_getElem?_getD, e2] at e
        cases o <;> simp_all
theorem exc_lt {l : List Bool} {i : Nat} (e : l.getD i false = true) : i < l.length := by
  rcases Nat.lt_or_ge i l.length with h | h
  · exact h
  · rw [List.getD_eq_getElem?_getD, List.getElem?_eq_none h] at e; cases e
theorem iniB_ok {K : PySem.W.Frag} {mg : Str → Option Value} {C fI LE : Addr} {fs : List Str} {self le : Str} {fd : FuncData} (h : iniB K C fI LE fs = true) (hm : mg le = some (.ref LE)) (hb : Binds K fd (self :: fs) [])
    (hd : ∃ (oc : Value) (od an : Option Addr) (osl : Array (Option Value)) (name qual : Str) (params : Arguments) (body : List Stmt) (scope : Scope) (dV kV doc pm cdv ct : Value),
      fd = PySem.W.fnOf name qual params body scope dV kV doc pm an cdv ct ∧ K.lookup fI = some ⟨oc, od, .func fd, osl⟩ ∧ PySem.W.codeIn K cdv qual = true ∧ FnScope (self :: fs) (self :: fs) scope ∧ initB le self fs scope body = true) : InitAt K mg C fs := by
  unfold iniB at h
  simp only [Bool.and_eq_true, decide_eq_true_eq, List.all_eq_true, Bool.not_eq_true', List.isEmpty_eq_false_iff] at h
  obtain ⟨⟨⟨⟨⟨⟨h1, h2⟩, h3⟩, h4⟩, h5⟩, h6⟩, h7⟩ := h
  exact ⟨oexB_ok K h1, h3, h6, h7, fI, fd, self, le, LE, h4, h5, hb, baseB_ok K h2, hm, hd⟩

theorem konBs_ok {K : PySem.W.Frag} {fa ca : Nat → Addr} {n : Nat} : ∀ {ds : List D} {us : List Value}, konB.konBs K n ds us = true → ∃ vs, Vals vs us ∧ ∀ m, Rps ⟨K, fa, ca⟩ m ds vs
  | [], us, h => by
    unfold konB.konBs at h
    rw [List.isEmpty_iff.mp h]
    exact ⟨[], .nil, fun m => Rps.mk0⟩
  | d :: ds, us, h => by
    cases us with
    | nil => unfold konB.konBs at h; cases h
    | cons u us =>
      unfold konB.konBs at h
      rw [Bool.and_eq_true] at h
      obtain ⟨v, h1, h2⟩ := konB_ok (fa := fa) (ca := ca) n d u h.1
      obtain ⟨vs, h3, h4⟩ := konBs_ok (ds := ds) h.2
      exact ⟨v :: vs, .cons h1 h3, fun m => Rps.mk (h2 m) (h4 m)⟩
theorem dfl_ok {K : PySem.W.Frag} {fa ca : Nat → Addr} {fd : FuncData} {T : Addr} {c : Value} {dd : Option Addr} {its : Array Value} {k : Nat} {sl : Array (Option Value)} {m : Nat} {nm : List Str} {pt idx : List Nat} {ps : List Str} {ds : List D} (lT : K.lookup T = some ⟨c, dd, .seq its k, sl⟩) (hk : konB.konBs K 9 ds its.toList = true)
    (h : ∀ us ws vs : List Value, us.length = m → ws.length = nm.length → vs.length = ds.length → ∃ g : Option (Array Value) → Sem (List (Str × Value)), bindArgs fd ⟨us, nm.zip ws⟩ = seqItems? (.ref T) >>= g ∧ g (some vs.toArray) = pure (ps.zip (pick pt (us ++ ws ++ pick idx vs)))) :
    ∃ dvs : List Value, (∃ vs, Vals vs dvs ∧ ∀ m, Rps ⟨K, fa, ca⟩ m (pick idx ds) vs) ∧ ∀ (s : Shared) (us ws : List Value), K.In s.heap → us.length = m → ws.length = nm.length → BindsTo s fd ⟨us, nm.zip ws⟩ (ps.zip (pick pt (us ++ ws ++ dvs))) := by
  obtain ⟨vs, h1, h2⟩ := konBs_ok (fa := fa) (ca := ca) hk
  refine ⟨pick idx its.toList, ⟨pick idx vs, pickV h1 idx, fun m => Rps.pick (G := { toGd := ⟨K, fa, ca⟩ }) (h2 m) idx⟩, fun s us ws X l1 l2 => ?_⟩
  have l3 : its.toList.length = ds.length := by rw [← h1.length, (h2 ⟨fun _ => False, fun _ => none, fun _ => none⟩).len]
  obtain ⟨g, e1, e2⟩ := h us ws its.toList l1 l2 l3
  refine BindsTo.of_looks fun M => ?_
  rw [e1]
  exact looks_items X lT rfl (.of_pure e2)
theorem dfl_bnd {K : PySem.W.Frag} {fd : FuncData} {T : Addr} {c : Value} {dd : Option Addr} {its : Array Value} {k : Nat} {sl : Array (Option Value)} {ps : List Str} {ds : List D} (lT : K.lookup T = some ⟨c, dd, .seq its k, sl⟩) (hk : konB.konBs K 9 ds its.toList = true)
    (h : ∀ us vs : List Value, us.length = ps.length → vs.length = ds.length → ∃ g : Option (Array Value) → Sem (List (Str × Value)), bindArgs fd ⟨us, []⟩ = seqItems? (.ref T) >>= g ∧ g (some vs.toArray) = pure (ps.zip us)) : Binds K fd ps [] := by
  obtain ⟨vs, h1, h2⟩ := konBs_ok (fa := fun _ => 0) (ca := fun _ => 0) hk
  intro s us X hl
  rw [List.append_nil] at hl ⊢
  have l3 : its.toList.length = ds.length := by rw [← h1.length, (h2 ⟨fun _ => False, fun _ => none, fun _ => none⟩).len]
  obtain ⟨g, e1, e2⟩ := h us its.toList hl l3
  refine BindsTo.of_looks fun M => ?_
  rw [e1]
  exact looks_items X lT rfl (.of_pure e2)
end L4

set_option exponentiation.threshold 500000
namespace L4
open PySem PySem.Spec PyProof.Rows L2

section
variable {C : CallF} {P : Pg} {ex : Option Exc} {b ss : ISs} {s : IS} {fr : Fr} {S : Sto} {Po : L4.Po}
theorem stepS (e : b = .cons s ss) (h : wpS C P ex s fr S { nx := fun fr' S' => wpSs C P ex ss fr' S' Po, rt := Po.rt, bk := Po.bk, ct := Po.ct, xc := Po.xc }) : wpSs C P ex b fr S Po := by subst e; exact h
theorem nilS (e : b = .nil) (h : Po.nx fr S) : wpSs C P ex b fr S Po := by subst e; exact h
end

theorem rng_seal : ∃ f : Int → Nat → List D, f = rngD := ⟨_, rfl⟩
noncomputable def rngS : Int → Nat → List D := Classical.choose rng_seal
theorem rngS_is : rngS = rngD := Classical.choose_spec rng_seal

noncomputable def onB (d : D) (A B : Prop) : Prop := match d with
  | .bl true => A
  | .bl false => B
  | _ => False
noncomputable def onI (d : D) (A : Int → Prop) : Prop := match d with
  | .int i => A i
  | _ => False
noncomputable def onS (d : D) (A : Str → Prop) : Prop := match d with
  | .str i => A i
  | _ => False
noncomputable def onT (d : D) (A : List D → Prop) : Prop := match d with
  | .tup i => A i
  | _ => False
noncomputable def onR (d : D) (A : Addr → Prop) : Prop := match d with
  | .ref i => A i
  | _ => False
noncomputable def onV (o : Option (Option D)) (A : D → Prop) : Prop := match o with
  | some (some d) => A d
  | _ => False
noncomputable def onF (d : D) (A : Nat → Prop) : Prop := match d with
  | .fn k => A k
  | _ => False
noncomputable def onO {α : Type} (o : Option α) (A : α → Prop) : Prop := match o with
  | some d => A d
  | none => False
noncomputable def onG (o : Option (Str × D)) (A : D → Prop) : Prop := match o with
  | some (_, d) => A d
  | none => False
theorem onB_t {A B : Prop} : onB (.bl true) A B = A := rfl
theorem onB_f {A B : Prop} : onB (.bl false) A B = B := rfl
theorem onB_n {A B : Prop} {b : Bool} : onB (.bl (!b)) A B = onB (.bl b) B A := by cases b <;> rfl
theorem onV_s {A : D → Prop} {d : D} : onV (some (some d)) A = A d := rfl
theorem onF_f {A : Nat → Prop} {k : Nat} : onF (.fn k) A = A k := rfl
theorem onI_i {A : Int → Prop} {i : Int} : onI (.int i) A = A i := rfl
theorem onS_s {A : Str → Prop} {i : Str} : onS (.str i) A = A i := rfl
theorem onT_t {A : List D → Prop} {i : List D} : onT (.tup i) A = A i := rfl
theorem onR_r {A : Addr → Prop} {i : Addr} : onR (.ref i) A = A i := rfl
theorem onO_s {α : Type} {A : α → Prop} {i : α} : onO (some i) A = A i := rfl
theorem onG_s {A : D → Prop} {x : Str} {i : D} : onG (some (x, i)) A = A i := rfl

theorem onB_d {A B c : Prop} [i : Decidable c] (h1 : c → A) (h2 : ¬c → B) : onB (.bl (decide c)) A B := by
  cases i with
  | isTrue h => exact h1 h
  | isFalse h => exact h2 h
theorem r_var {C : CallF} {P : Pg} {ex : Option Exc} {fr : Fr} {S : Sto} {Q : PoE} {E : PoX} {i : Nat} : wpE C P ex (.var i) fr S Q E = (onV fr[i]? fun d => Q d S) := by
  simp only [wpE]
  first | done | rfl
theorem r_cst {C : CallF} {P : Pg} {ex : Option Exc} {fr : Fr} {S : Sto} {Q : PoE} {E : PoX} {d : D} : wpE C P ex (.cst d) fr S Q E = (Q d S) := by
  simp only [wpE]
theorem r_fnv {C : CallF} {P : Pg} {ex : Option Exc} {fr : Fr} {S : Sto} {Q : PoE} {E : PoX} {k : Nat} : wpE C P ex (.fnv k) fr S Q E = (Q (.fn k) S) := by
  simp only [wpE]
theorem r_clv {C : CallF} {P : Pg} {ex : Option Exc} {fr : Fr} {S : Sto} {Q : PoE} {E : PoX} {k : Nat} : wpE C P ex (.clv k) fr S Q E = (Q (.cls k) S) := by
  simp only [wpE]
theorem r_tyv {C : CallF} {P : Pg} {ex : Option Exc} {fr : Fr} {S : Sto} {Q : PoE} {E : PoX} {n : String} : wpE C P ex (.tyv n) fr S Q E = (Q (.ty n) S) := by
  simp only [wpE]
theorem r_gc {C : CallF} {P : Pg} {ex : Option Exc} {fr : Fr} {S : Sto} {Q : PoE} {E : PoX} {j : Nat} : wpE C P ex (.gc j) fr S Q E = (onG P.gcs[j]? fun d => Q d S) := by
  simp only [wpE]
  first | done | rfl
theorem r_bin {C : CallF} {P : Pg} {ex : Option Exc} {fr : Fr} {S : Sto} {Q : PoE} {E : PoX} {o : BOp} {fz : Bool} {a b : IE} : wpE C P ex (.bin o fz a b) fr S Q E = (wpE C P ex a fr S (fun x S1 => wpE C P ex b fr S1 (fun y S2 => wpBin o fz x y S2 Q) E) E) := by
  simp only [wpE]
theorem r_neg {C : CallF} {P : Pg} {ex : Option Exc} {fr : Fr} {S : Sto} {Q : PoE} {E : PoX} {a : IE} : wpE C P ex (.neg a) fr S Q E = (wpE C P ex a fr S (fun x S1 => onI x fun i => Q (.int (-i)) S1) E) := by
  simp only [wpE]
  first | done | rfl
theorem r_nt {C : CallF} {P : Pg} {ex : Option Exc} {fr : Fr} {S : Sto} {Q : PoE} {E : PoX} {a : IE} : wpE C P ex (.nt a) fr S Q E = (wpE C P ex a fr S (fun x S1 => onB x (Q (.bl false) S1) (Q (.bl true) S1)) E) := by
  simp only [wpE]
  refine congrArg (fun z => wpE C P ex a fr S z E) (funext fun x => funext fun S1 => ?_)
  unfold onB
  cases x <;> first | rfl | (rename_i b; cases b <;> rfl)
theorem r_cmp {C : CallF} {P : Pg} {ex : Option Exc} {fr : Fr} {S : Sto} {Q : PoE} {E : PoX} {o : COp} {a b : IE} : wpE C P ex (.cmp o a b) fr S Q E = (wpE C P ex a fr S (fun x S1 => wpE C P ex b fr S1 (fun y S2 => wpCmp o x y S2 Q) E) E) := by
  simp only [wpE]
theorem r_conj {C : CallF} {P : Pg} {ex : Option Exc} {fr : Fr} {S : Sto} {Q : PoE} {E : PoX} {es : IEs} : wpE C P ex (.conj es) fr S Q E = (wpConj C P ex es fr S Q E) := by
  simp only [wpE]
theorem r_disj {C : CallF} {P : Pg} {ex : Option Exc} {fr : Fr} {S : Sto} {Q : PoE} {E : PoX} {es : IEs} : wpE C P ex (.disj es) fr S Q E = (wpDisj C P ex es fr S Q E) := by
  simp only [wpE]
theorem r_ite {C : CallF} {P : Pg} {ex : Option Exc} {fr : Fr} {S : Sto} {Q : PoE} {E : PoX} {t a b : IE} : wpE C P ex (.ite t a b) fr S Q E = (wpE C P ex t fr S (fun x S1 => onB x (wpE C P ex a fr S1 Q E) (wpE C P ex b fr S1 Q E)) E) := by
  simp only [wpE]
  first | done | rfl
theorem r_tup {C : CallF} {P : Pg} {ex : Option Exc} {fr : Fr} {S : Sto} {Q : PoE} {E : PoX} {es : IEs} : wpE C P ex (.tup es) fr S Q E = (wpEs C P ex es fr S (fun ds S1 => ds.length ≤ 1000 ∧ Q (.tup ds) S1) E) := by
  simp only [wpE]
theorem r_lst {C : CallF} {P : Pg} {ex : Option Exc} {fr : Fr} {S : Sto} {Q : PoE} {E : PoX} {fz : Bool} {es : IEs} : wpE C P ex (.lst fz es) fr S Q E = (wpEs C P ex es fr S (fun ds S1 => ds.length ≤ 1000 ∧ newL fz ds S1 Q) E) := by
  simp only [wpE]
theorem r_dsp0 {C : CallF} {P : Pg} {ex : Option Exc} {fr : Fr} {S : Sto} {Q : PoE} {E : PoX}  : wpE C P ex (.dsp false .nil) fr S Q E = (newO (.dct []) S Q) := by
  simp only [wpE]
  simp [wpEs, pairsF, mergeD]
theorem r_dsp {C : CallF} {P : Pg} {ex : Option Exc} {fr : Fr} {S : Sto} {Q : PoE} {E : PoX} {a b : IE} {es : IEs} : wpE C P ex (.dsp false (.cons a (.cons b es))) fr S Q E = (wpEs C P ex (.cons a (.cons b es)) fr S (fun ds S1 => onO (pairsF ds) fun kvs => kvs.length ≤ 15 ∧ newO (.dct (mergeD [] kvs)) S1 Q) E) := by
  simp only [wpE]
  simp only [Bool.false_eq_true, if_false]
  refine congrArg (fun z => wpEs C P ex (.cons a (.cons b es)) fr S z E) (funext fun ds => funext fun S1 => ?_)
  unfold onO; cases pairsF ds <;> rfl
theorem r_idx {C : CallF} {P : Pg} {ex : Option Exc} {fr : Fr} {S : Sto} {Q : PoE} {E : PoX} {a i : IE} : wpE C P ex (.idx a i) fr S Q E = (wpE C P ex a fr S (fun x S1 => wpE C P ex i fr S1 (fun y S2 => wpIdx x y S2 Q) E) E) := by
  simp only [wpE]
theorem r_fld {C : CallF} {P : Pg} {ex : Option Exc} {fr : Fr} {S : Sto} {Q : PoE} {E : PoX} {o : IE} {x : Str} : wpE C P ex (.fld o x) fr S Q E = (wpE C P ex o fr S (fun a S1 => wpFld P x a S1 Q) E) := by
  simp only [wpE]
theorem r_call {C : CallF} {P : Pg} {ex : Option Exc} {fr : Fr} {S : Sto} {Q : PoE} {E : PoX} {k : Nat} {es : IEs} : wpE C P ex (.call k es) fr S Q E = (wpEs C P ex es fr S (fun ds S1 => C k ds none S1 Q E) E) := by
  simp only [wpE]
theorem r_callk {C : CallF} {P : Pg} {ex : Option Exc} {fr : Fr} {S : Sto} {Q : PoE} {E : PoX} {k : Nat} {nm : List Str} {pt : List Nat} {dv : List D} {es ks : IEs} : wpE C P ex (.callk k nm pt dv es ks) fr S Q E = (wpEs C P ex es fr S (fun ds S1 => wpEs C P ex ks fr S1 (fun zs S2 => (ds.length = es.len ∧ zs.length = nm.length) ∧ C k (pick pt (ds ++ zs ++ dv)) none S2 Q E) E) E) := by
  simp only [wpE]
theorem r_callv {C : CallF} {P : Pg} {ex : Option Exc} {fr : Fr} {S : Sto} {Q : PoE} {E : PoX} {i : Nat} {es : IEs} : wpE C P ex (.callv i es) fr S Q E = (onV fr[i]? fun d => onF d fun k => wpEs C P ex es fr S (fun ds S1 => C k ds none S1 Q E) E) := by
  simp only [wpE]
  unfold onV onF
  rcases fr[i]? with _ | _ | d <;> first | rfl | (cases d <;> rfl)
theorem r_make {C : CallF} {P : Pg} {ex : Option Exc} {fr : Fr} {S : Sto} {Q : PoE} {E : PoX} {c : Nat} {nm : List Str} {pt : List Nat} {dv : List D} {es ks : IEs} : wpE C P ex (.make c nm pt dv es ks) fr S Q E = (wpEs C P ex es fr S (fun ds S1 => wpEs C P ex ks fr S1 (fun zs S2 => (ds.length = es.len ∧ zs.length = nm.length) ∧ onO (P.ini c) fun k => ∀ p, S2 p = none → C k (.ref p :: pick pt (ds ++ zs ++ dv)) none (S2.set p (.ins c [])) (fun r S3 => r = .non ∧ Q (.ref p) S3) E) E) E) := by
  simp only [wpE]
  refine congrArg (fun z => wpEs C P ex es fr S z E) (funext fun ds => funext fun S1 => ?_)
  refine congrArg (fun z => wpEs C P ex ks fr S1 z E) (funext fun zs => funext fun S2 => ?_)
  unfold onO; cases P.ini c <;> rfl
theorem r_mcl {C : CallF} {P : Pg} {ex : Option Exc} {fr : Fr} {S : Sto} {Q : PoE} {E : PoX} {x : Str} {nm : List Str} {pt : List Nat} {dv : List D} {o : IE} {es ks : IEs} : wpE C P ex (.mcl x nm pt dv o es ks) fr S Q E = (wpE C P ex o fr S (fun a S0 => onO (iv S0 a) fun q => (q.1 < P.ncl ∧ q.2.lookup x = none) ∧ onO (P.mth q.1 x) fun k => wpEs C P ex es fr S0 (fun ds S1 => wpEs C P ex ks fr S1 (fun zs S2 => (ds.length = es.len ∧ zs.length = nm.length) ∧ C k (a :: pick pt (ds ++ zs ++ dv)) none S2 Q E) E) E) E) := by
  simp only [wpE]
  refine congrArg (fun z => wpE C P ex o fr S z E) (funext fun a => funext fun S1 => ?_)
  unfold onO
  cases iv S1 a with
  | none => rfl
  | some q => obtain ⟨c, fs⟩ := q; dsimp only; cases P.mth c x <;> rfl
theorem r_blt {C : CallF} {P : Pg} {ex : Option Exc} {fr : Fr} {S : Sto} {Q : PoE} {E : PoX} {f : Bf} {fz : Bool} {es : IEs} : wpE C P ex (.blt f fz es) fr S Q E = (wpEs C P ex es fr S (fun ds S1 => wpB P f fz ds S1 Q) E) := by
  simp only [wpE]
theorem r_comp {C : CallF} {P : Pg} {ex : Option Exc} {fr : Fr} {S : Sto} {Q : PoE} {E : PoX} {fz : Bool} {tg : Tg} {it : II} {ts : IEs} {b : IE} {own : List Nat} : wpE C P ex (.comp fz tg it ts b own) fr S Q E = (wpI C P ex it fr S (fun w S1 => compW tg own (wpTs C P ex ts) (wpE C P ex b) w.g w.ds [] fr S1 (fun acc S2 => newL fz acc (w.bk S2) Q)) E) := by
  simp only [wpE]
theorem r_fst {C : CallF} {P : Pg} {ex : Option Exc} {fr : Fr} {S : Sto} {Q : PoE} {E : PoX} {es : IEs} : wpE C P ex (.fst es) fr S Q E = (wpF C P ex es Str.empty fr S (fun x S1 => Q (.str x) S1) E) := by
  simp only [wpE]
theorem r_frz {C : CallF} {P : Pg} {ex : Option Exc} {fr : Fr} {S : Sto} {Q : PoE} {E : PoX} {b : IE} : wpE C P ex (.frz b) fr S Q E = (wpE C P ex b fr S (fun x S1 => frzK x S1 Q) E) := by
  simp only [wpE]
theorem r_frzo {C : CallF} {P : Pg} {ex : Option Exc} {fr : Fr} {S : Sto} {Q : PoE} {E : PoX} {b : IE} : wpE C P ex (.frzo b) fr S Q E = (wpE C P ex b fr S (fun x S1 => frzA x S1 Q) E) := by
  simp only [wpE]
theorem r_met {C : CallF} {P : Pg} {ex : Option Exc} {fr : Fr} {S : Sto} {Q : PoE} {E : PoX} {m : Bm} {fz : Bool} {o : IE} {es : IEs} : wpE C P ex (.met m fz o es) fr S Q E = (wpE C P ex o fr S (fun x S1 => tyD S1 x = some m.ty ∧ wpEs C P ex es fr S1 (fun ds S2 => wpM m fz x ds S2 Q) E) E) := by
  simp only [wpE]
theorem r_rvs {C : CallF} {P : Pg} {ex : Option Exc} {fr : Fr} {S : Sto} {Q : PoE} {E : PoX} {fz : Bool} {o : IE} : wpE C P ex (.rvs fz o) fr S Q E = (wpE C P ex o fr S (fun x S1 => onO (lv S1 x) fun xs => newL fz xs.reverse S1 Q) E) := by
  simp only [wpE]
  refine congrArg (fun z => wpE C P ex o fr S z E) (funext fun x => funext fun S1 => ?_)
  unfold onO; cases lv S1 x <;> rfl
theorem r_slc00 {C : CallF} {P : Pg} {ex : Option Exc} {fr : Fr} {S : Sto} {Q : PoE} {E : PoX} {fz : Bool} {o lo hi : IE} : wpE C P ex (.slc fz o false lo false hi) fr S Q E = (wpE C P ex o fr S (fun x S1 => wpSl fz x none none S1 Q) E) := by
  simp only [wpE]
  first | done | rfl
theorem r_slc10 {C : CallF} {P : Pg} {ex : Option Exc} {fr : Fr} {S : Sto} {Q : PoE} {E : PoX} {fz : Bool} {o lo hi : IE} : wpE C P ex (.slc fz o true lo false hi) fr S Q E = (wpE C P ex o fr S (fun x S1 => wpE C P ex lo fr S1 (fun i S2 => onI i fun i => wpSl fz x (some i) none S2 Q) E) E) := by
  simp only [wpE]
  first | done | rfl
theorem r_slc01 {C : CallF} {P : Pg} {ex : Option Exc} {fr : Fr} {S : Sto} {Q : PoE} {E : PoX} {fz : Bool} {o lo hi : IE} : wpE C P ex (.slc fz o false lo true hi) fr S Q E = (wpE C P ex o fr S (fun x S1 => wpE C P ex hi fr S1 (fun j S3 => onI j fun j => wpSl fz x none (some j) S3 Q) E) E) := by
  simp only [wpE]
  first | done | rfl
theorem r_slc11 {C : CallF} {P : Pg} {ex : Option Exc} {fr : Fr} {S : Sto} {Q : PoE} {E : PoX} {fz : Bool} {o lo hi : IE} : wpE C P ex (.slc fz o true lo true hi) fr S Q E = (wpE C P ex o fr S (fun x S1 => wpE C P ex lo fr S1 (fun i S2 => onI i fun i => wpE C P ex hi fr S2 (fun j S3 => onI j fun j => wpSl fz x (some i) (some j) S3 Q) E) E) E) := by
  simp only [wpE]
  first | done | rfl
theorem r_chain {C : CallF} {P : Pg} {ex : Option Exc} {fr : Fr} {S : Sto} {Q : PoE} {E : PoX} {o1 o2 : COp} {a b c : IE} : wpE C P ex (.chain o1 o2 a b c) fr S Q E = (wpE C P ex a fr S (fun x S1 => wpE C P ex b fr S1 (fun y S2 => wpCmp o1 x y S2 (fun r S3 => onB r (wpE C P ex c fr S3 (fun z S4 => wpCmp o2 y z S4 Q) E) (Q (.bl false) S3))) E) E) := by
  simp only [wpE]
  first | done | rfl
theorem r_conj1 {C : CallF} {P : Pg} {ex : Option Exc} {fr : Fr} {S : Sto} {Q : PoE} {E : PoX} {e : IE} : wpConj C P ex (.cons e .nil) fr S Q E = (wpE C P ex e fr S Q E) := by
  simp only [wpConj]
theorem r_conj2 {C : CallF} {P : Pg} {ex : Option Exc} {fr : Fr} {S : Sto} {Q : PoE} {E : PoX} {e : IE} {e2 : IE} {es2 : IEs} : wpConj C P ex (.cons e (.cons e2 es2)) fr S Q E = (wpE C P ex e fr S (fun x S1 => onB x (wpConj C P ex (.cons e2 es2) fr S1 Q E) (Q (.bl false) S1)) E) := by
  simp only [wpConj]
  first | done | rfl
theorem r_disj1 {C : CallF} {P : Pg} {ex : Option Exc} {fr : Fr} {S : Sto} {Q : PoE} {E : PoX} {e : IE} : wpDisj C P ex (.cons e .nil) fr S Q E = (wpE C P ex e fr S Q E) := by
  simp only [wpDisj]
theorem r_disj2 {C : CallF} {P : Pg} {ex : Option Exc} {fr : Fr} {S : Sto} {Q : PoE} {E : PoX} {e : IE} {e2 : IE} {es2 : IEs} : wpDisj C P ex (.cons e (.cons e2 es2)) fr S Q E = (wpE C P ex e fr S (fun x S1 => onB x (Q (.bl true) S1) (wpDisj C P ex (.cons e2 es2) fr S1 Q E)) E) := by
  simp only [wpDisj]
  first | done | rfl
theorem r_ts0 {C : CallF} {P : Pg} {ex : Option Exc} {fr : Fr} {S : Sto} {Q : PoE} {E : PoX} : wpTs C P ex .nil fr S Q E = (Q (.bl true) S) := by
  simp only [wpTs]
theorem r_ts1 {C : CallF} {P : Pg} {ex : Option Exc} {fr : Fr} {S : Sto} {Q : PoE} {E : PoX} {e : IE} {es : IEs} : wpTs C P ex (.cons e es) fr S Q E = (wpE C P ex e fr S (fun x S1 => onB x (wpTs C P ex es fr S1 Q E) (Q (.bl false) S1)) E) := by
  simp only [wpTs]
  first | done | rfl
theorem r_es0 {C : CallF} {P : Pg} {ex : Option Exc} {fr : Fr} {S : Sto} {Q : PoL} {E : PoX} : wpEs C P ex .nil fr S Q E = Q [] S := by
  simp only [wpEs]
theorem r_es1 {C : CallF} {P : Pg} {ex : Option Exc} {fr : Fr} {S : Sto} {Q : PoL} {E : PoX} {e : IE} {es : IEs} : wpEs C P ex (.cons e es) fr S Q E = wpE C P ex e fr S (fun d S1 => wpEs C P ex es fr S1 (fun ds S2 => Q (d :: ds) S2) E) E := by
  simp only [wpEs]
theorem r_asg {C : CallF} {P : Pg} {ex : Option Exc} {fr : Fr} {S : Sto} {Po : L4.Po} {i : Nat} {e : IE} : wpS C P ex (.asg i e) fr S Po = (wpE C P ex e fr S (fun d S1 => Po.nx (fr.set i (some d)) S1) (fun x S1 => Po.xc x fr S1)) := by
  simp only [wpS]
theorem r_asgc {C : CallF} {P : Pg} {ex : Option Exc} {fr : Fr} {S : Sto} {Po : L4.Po} {i : Nat} {e : IE} : wpS C P ex (.asgc i e) fr S Po = (wpE C P ex e fr S (fun d S1 => Po.nx (fr.set i (some d)) S1) (fun x S1 => Po.xc x fr S1)) := by
  simp only [wpS]
theorem r_par {C : CallF} {P : Pg} {ex : Option Exc} {fr : Fr} {S : Sto} {Po : L4.Po} {i j : Nat} {a b : IE} : wpS C P ex (.par i j a b) fr S Po = (wpE C P ex a fr S (fun d S1 => wpE C P ex b fr S1 (fun d' S2 => Po.nx ((fr.set i (some d)).set j (some d')) S2) (fun x S2 => Po.xc x fr S2)) (fun x S1 => Po.xc x fr S1)) := by
  simp only [wpS]
theorem r_asgt {C : CallF} {P : Pg} {ex : Option Exc} {fr : Fr} {S : Sto} {Po : L4.Po} {ts : ITs} {e : IE} : wpS C P ex (.asgt ts e) fr S Po = (wpE C P ex e fr S (fun d S1 => onO (sv S1 d) fun ds => ds.length = ts.len ∧ wpAs C P ex ts ds fr S1 Po) (fun x S1 => Po.xc x fr S1)) := by
  simp only [wpS]
  refine congrArg (fun z => wpE C P ex e fr S z (fun x S1 => Po.xc x fr S1)) (funext fun d => funext fun S1 => ?_)
  unfold onO; cases sv S1 d <;> rfl
theorem r_sub {C : CallF} {P : Pg} {ex : Option Exc} {fr : Fr} {S : Sto} {Po : L4.Po} {o i e : IE} : wpS C P ex (.sub o i e) fr S Po = (wpE C P ex e fr S (fun d S1 => wpE C P ex o fr S1 (fun x S2 => wpE C P ex i fr S2 (fun y S3 => wpPut x y d S3 fun S4 => Po.nx fr S4) (fun x S3 => Po.xc x fr S3)) (fun x S2 => Po.xc x fr S2)) (fun x S1 => Po.xc x fr S1)) := by
  simp only [wpS]
theorem r_fset {C : CallF} {P : Pg} {ex : Option Exc} {fr : Fr} {S : Sto} {Po : L4.Po} {o : IE} {f : Str} {e : IE} : wpS C P ex (.fset o f e) fr S Po = (wpE C P ex e fr S (fun d S1 => wpE C P ex o fr S1 (fun x S2 => wpFset P f x d S2 fun S3 => Po.nx fr S3) (fun x S2 => Po.xc x fr S2)) (fun x S1 => Po.xc x fr S1)) := by
  simp only [wpS]
theorem r_exp {C : CallF} {P : Pg} {ex : Option Exc} {fr : Fr} {S : Sto} {Po : L4.Po} {e : IE} : wpS C P ex (.exp e) fr S Po = (wpE C P ex e fr S (fun _ S1 => Po.nx fr S1) (fun x S1 => Po.xc x fr S1)) := by
  simp only [wpS]
theorem r_ret {C : CallF} {P : Pg} {ex : Option Exc} {fr : Fr} {S : Sto} {Po : L4.Po} {e : IE} : wpS C P ex (.ret e) fr S Po = (wpE C P ex e fr S Po.rt (fun x S1 => Po.xc x fr S1)) := by
  simp only [wpS]
theorem r_retn {C : CallF} {P : Pg} {ex : Option Exc} {fr : Fr} {S : Sto} {Po : L4.Po}  : wpS C P ex (.retn) fr S Po = (Po.rt .non S) := by
  simp only [wpS]
theorem r_ifs {C : CallF} {P : Pg} {ex : Option Exc} {fr : Fr} {S : Sto} {Po : L4.Po} {t : IE} {a b : ISs} : wpS C P ex (.ifs t a b) fr S Po = (wpE C P ex t fr S (fun d S1 => onB d (wpSs C P ex a fr S1 Po) (wpSs C P ex b fr S1 Po)) (fun x S1 => Po.xc x fr S1)) := by
  simp only [wpS]
  first | done | rfl
theorem r_fors {C : CallF} {P : Pg} {ex : Option Exc} {fr : Fr} {S : Sto} {Po : L4.Po} {tg : Tg} {it : II} {b : ISs} : wpS C P ex (.fors tg it b) fr S Po = (wpI C P ex it fr S (fun w S1 => forW tg (wpSs C P ex b) w.g w.ds fr S1 (Po.behind w.bk)) (fun x S1 => Po.xc x fr S1)) := by
  simp only [wpS]
theorem r_whil {C : CallF} {P : Pg} {ex : Option Exc} {fr : Fr} {S : Sto} {Po : L4.Po} {t : IE} {b : ISs} : wpS C P ex (.whil t b) fr S Po = (∃ n, whileW (wpE C P ex t) (wpSs C P ex b) n fr S Po) := by
  simp only [wpS]
theorem r_rais {C : CallF} {P : Pg} {ex : Option Exc} {fr : Fr} {S : Sto} {Po : L4.Po} {k : Nat} {es : IEs} : wpS C P ex (.rais k es) fr S Po = (wpEs C P ex es fr S (fun ds S1 => ((P.xfs k = [] ∨ ds.length = (P.xfs k).length) ∧ ds.length ≤ 900) ∧ Po.xc ⟨.cls k, ((P.xfs k).zip ds).reverse⟩ fr S1) (fun x S1 => Po.xc x fr S1)) := by
  simp only [wpS]
theorem r_pass {C : CallF} {P : Pg} {ex : Option Exc} {fr : Fr} {S : Sto} {Po : L4.Po}  : wpS C P ex (.pass) fr S Po = (Po.nx fr S) := by
  simp only [wpS]
theorem r_frzs {C : CallF} {P : Pg} {ex : Option Exc} {fr : Fr} {S : Sto} {Po : L4.Po} {i : Nat} : wpS C P ex (.frz i) fr S Po = (onV fr[i]? fun d => onR d fun p => onO (S p) fun o => Po.nx (fr.set i (some (frzO o))) (S.del p)) := by
  simp only [wpS]
  unfold onV onR onO
  rcases fr[i]? with _ | _ | d <;> first | rfl | (cases d <;> first | rfl | (rename_i p; dsimp only; cases S p <;> rfl))
theorem r_tryo {C : CallF} {P : Pg} {ex : Option Exc} {fr : Fr} {S : Sto} {Po : L4.Po} {b : ISs} {hs : IHs} : wpS C P ex (.tryo b hs) fr S Po = (wpSs C P ex b fr S { nx := Po.nx, rt := Po.rt, bk := Po.bk, ct := Po.ct, xc := fun x fr' S' => wpHs C P ex hs x fr' S' Po }) := by
  simp only [wpS]
theorem r_anm {C : CallF} {P : Pg} {ex : Option Exc} {fr : Fr} {S : Sto} {Po : L4.Po} {d : D} {i : Nat} : wpA C P ex (.nm i) d fr S Po = (Po.nx (fr.set i (some d)) S) := by
  simp only [wpA]
theorem r_asub {C : CallF} {P : Pg} {ex : Option Exc} {fr : Fr} {S : Sto} {Po : L4.Po} {d : D} {o i : IE} : wpA C P ex (.sub o i) d fr S Po = (wpE C P ex o fr S (fun x S2 => wpE C P ex i fr S2 (fun y S3 => wpPut x y d S3 fun S4 => Po.nx fr S4) (fun x S3 => Po.xc x fr S3)) (fun x S2 => Po.xc x fr S2)) := by
  simp only [wpA]
theorem r_as0 {C : CallF} {P : Pg} {ex : Option Exc} {fr : Fr} {S : Sto} {Po : L4.Po} : wpAs C P ex .nil [] fr S Po = (Po.nx fr S) := by
  simp only [wpAs]
theorem r_as1 {C : CallF} {P : Pg} {ex : Option Exc} {fr : Fr} {S : Sto} {Po : L4.Po} {d : D} {ds : List D} {t : IT} {ts : ITs} : wpAs C P ex (.cons t ts) (d :: ds) fr S Po = (wpA C P ex t d fr S { nx := fun fr' S' => wpAs C P ex ts ds fr' S' Po, rt := Po.rt, bk := Po.bk, ct := Po.ct, xc := Po.xc }) := by
  simp only [wpAs]
theorem r_rng1 {C : CallF} {P : Pg} {ex : Option Exc} {fr : Fr} {S : Sto} {R : Wk → Sto → Prop} {E : PoX} {e : IE} : wpI C P ex (.rng1 e) fr S R E = (wpE C P ex e fr S (fun x S1 => onI x fun j => (-(2 ^ 62) ≤ j ∧ j < 2 ^ 62) ∧ R (wkV (rngS 0 j.toNat)) S1) E) := by
  simp only [wpI, rngS_is]
  first | done | rfl
theorem r_seq {C : CallF} {P : Pg} {ex : Option Exc} {fr : Fr} {S : Sto} {R : Wk → Sto → Prop} {E : PoX} {e : IE} : wpI C P ex (.seq e) fr S R E = (wpE C P ex e fr S (fun x S1 => onO (wkSeq S1 x) fun w => R w S1) E) := by
  simp only [wpI]
  refine congrArg (fun z => wpE C P ex e fr S z E) (funext fun x => funext fun S1 => ?_)
  unfold onO; cases wkSeq S1 x <;> rfl
theorem r_txt {C : CallF} {P : Pg} {ex : Option Exc} {fr : Fr} {S : Sto} {R : Wk → Sto → Prop} {E : PoX} {e : IE} : wpI C P ex (.txt e) fr S R E = (wpE C P ex e fr S (fun x S1 => onS x fun z => Line z.length ∧ R (wkV (chars z)) S1) E) := by
  simp only [wpI]
  first | done | rfl
theorem r_rev {C : CallF} {P : Pg} {ex : Option Exc} {fr : Fr} {S : Sto} {R : Wk → Sto → Prop} {E : PoX} {e : IE} : wpI C P ex (.rev e) fr S R E = (wpE C P ex e fr S (fun x S1 => onO (wkSeq S1 x) fun w => R (w.map List.reverse) S1) E) := by
  simp only [wpI]
  refine congrArg (fun z => wpE C P ex e fr S z E) (funext fun x => funext fun S1 => ?_)
  unfold onO; cases wkSeq S1 x <;> rfl
end L4

namespace L4
open PySem PySem.Spec PyProof.Rows L2

section
variable {S : Sto} {Q : PoE} {i j k : Int} {x y : Str} {b c : Bool} {a d : D} {fz : Bool} {xs ys ds : List D} {P : Pg} {p : Addr}
theorem newL_t : newL true xs S Q = Q (.lst xs) S := (rfl)
theorem newL_f : newL false xs S Q = (∀ p, S p = none → Q (.ref p) (S.set p (.lst xs))) := by unfold newL; rw [if_neg (by decide)]
theorem bin_add : wpBin .add fz (.int i) (.int j) S Q = Q (.int (i + j)) S := rfl
theorem bin_cat : wpBin .add fz (.str x) (.str y) S Q = (Line (x.length + y.length) ∧ Q (.str (x ++ y)) S) := rfl
theorem bin_repS {z : Str} {k : Int} : wpBin .mul fz (.str z) (.int k) S Q = ((2 ≤ k ∧ k ≤ 1000 ∧ 1 ≤ z.length ∧ z.length ≤ 1000) ∧ Q (.str (repS z k.toNat)) S) := (rfl)
theorem bin_catT : wpBin .add fz (.tup xs) (.tup ys) S Q = ((xs ≠ [] ∧ Line (xs.length + ys.length)) ∧ Q (.tup (xs ++ ys)) S) := rfl
theorem bin_repT : wpBin .mul fz (.tup xs) (.int k) S Q = ((xs ≠ [] ∧ 2 ≤ k ∧ k ≤ 1000 ∧ xs.length ≤ 1000) ∧ Q (.tup (List.replicate k.toNat xs).flatten) S) := rfl
theorem bin_catL : wpBin .add fz (.lst xs) (.lst ys) S Q = (Line (xs.length + ys.length) ∧ newL fz (xs ++ ys) S Q) := rfl
theorem bin_sub : wpBin .sub fz (.int i) (.int j) S Q = Q (.int (i - j)) S := rfl
theorem bin_mul : wpBin .mul fz (.int i) (.int j) S Q = (Mul i j ∧ Q (.int (i * j)) S) := rfl
theorem bin_repL : wpBin .mul fz (.lst xs) (.int k) S Q = ((k < 2 ^ 30 ∧ -(2 ^ 30) < k ∧ Line (xs.length * k.toNat)) ∧ newL fz (List.replicate k.toNat xs).flatten S Q) := rfl
theorem bin_mod : wpBin .mod fz (.int i) (.int j) S Q = (j ≠ 0 ∧ Q (.int (i.fmod j)) S) := rfl
theorem bin_fdiv : wpBin .fdiv fz (.int i) (.int j) S Q = ((j ≠ 0 ∧ j.natAbs < 2 ^ 8900) ∧ Q (.int (i.fdiv j)) S) := rfl
theorem bin_pow : wpBin .pow fz (.int i) (.int j) S Q = ((0 ≤ j ∧ j ≤ 1000 ∧ i.natAbs < 2 ^ 64) ∧ Q (.int (i ^ j.toNat)) S) := rfl
theorem c_eq_i : wpCmp .eq (.int i) (.int j) S Q = Q (.bl (decide (i = j))) S := by simp [wpCmp, plainN, topD, resD, eqD, dctEq, dctEq0, dv, lv]
theorem c_eq_s : wpCmp .eq (.str x) (.str y) S Q = Q (.bl (decide (x = y))) S := by simp [wpCmp, plainN, topD, resD, eqD, dctEq, dctEq0, dv, lv]
theorem c_eq_b : wpCmp .eq (.bl b) (.bl c) S Q = Q (.bl (b == c)) S := by simp [wpCmp, plainN, topD, resD, eqD, dctEq, dctEq0, dv, lv]
theorem c_ne_i : wpCmp .ne (.int i) (.int j) S Q = Q (.bl (!decide (i = j))) S := by simp [wpCmp, plainN, topD, resD, eqD, dctEq, dctEq0, dv, lv]
theorem c_ne_s : wpCmp .ne (.str x) (.str y) S Q = Q (.bl (!decide (x = y))) S := by simp [wpCmp, plainN, topD, resD, eqD, dctEq, dctEq0, dv, lv]
theorem c_ne_b : wpCmp .ne (.bl b) (.bl c) S Q = Q (.bl (!(b == c))) S := by simp [wpCmp, plainN, topD, resD, eqD, dctEq, dctEq0, dv, lv]
theorem c_lt : wpCmp .lt (.int i) (.int j) S Q = Q (.bl (decide (i < j))) S := rfl
theorem c_lt_s : wpCmp .lt (.str x) (.str y) S Q = Q (.bl (ltS x y)) S := rfl
theorem c_le : wpCmp .le (.int i) (.int j) S Q = Q (.bl (decide (i ≤ j))) S := rfl
theorem c_gt : wpCmp .gt (.int i) (.int j) S Q = Q (.bl (decide (j < i))) S := rfl
theorem c_ge : wpCmp .ge (.int i) (.int j) S Q = Q (.bl (decide (j ≤ i))) S := rfl
theorem c_is : wpCmp .is_ a .non S Q = Q (.bl (isNo a)) S := rfl
theorem c_isnot : wpCmp .isnot a .non S Q = Q (.bl (!isNo a)) S := rfl

theorem c_ne (h1 : plainN 60 (topD S a) = true) (h2 : plainN 60 (topD S d) = true) (h : Q (.bl (!eqD (topD S a) (topD S d))) S) : wpCmp .ne a d S Q := .inl ⟨⟨h1, h2⟩, h⟩
theorem c_neX {r : Bool} (h : dctEq S a d = some r) (q : Q (.bl (!r)) S) : wpCmp .ne a d S Q := .inr (.inr ⟨r, h, q⟩)

theorem idx_tup : wpIdx (.tup ds) (.int i) S Q = onO (atI ds i) fun d => Q d S := by
  show (match atI ds i with
    | some d => Q d S
    | none => False) = _
  unfold onO; cases atI ds i <;> rfl
theorem idx_lst : wpIdx (.lst ds) (.int i) S Q = onO (atI ds i) fun d => Q d S := by
  show (match atI ds i with
    | some d => Q d S
    | none => False) = _
  unfold onO; cases atI ds i <;> rfl
theorem idx_scr : wpIdx (.scr ds) (.int i) S Q = onO (atI ds i) fun d => Q d S := by
  show (match atI ds i with
    | some d => Q d S
    | none => False) = _
  unfold onO; cases atI ds i <;> rfl
theorem idx_ref (h : S p = some (.lst ds)) : wpIdx (.ref p) (.int i) S Q = onO (atI ds i) fun d => Q d S := by
  unfold wpIdx
  simp only [sv, h]
  unfold onO; cases atI ds i <;> rfl
theorem atI_nat {α : Type} {ds : List α} {i : Nat} : atI ds (i : Int) = ds[i]? := by
  unfold atI ixN
  rw [if_pos (Int.natCast_nonneg i)]
  by_cases h : i < ds.length
  · rw [if_pos (Int.ofNat_lt.mpr h)]
    rfl
  · rw [if_neg (by omega), List.getElem?_eq_none (by omega)]
    rfl
theorem atI_0 {α : Type} {ds : List α} : atI ds 0 = ds[0]? := atI_nat (i := 0)
theorem atI_1 {α : Type} {ds : List α} : atI ds 1 = ds[1]? := atI_nat (i := 1)
theorem atI_2 {α : Type} {ds : List α} : atI ds 2 = ds[2]? := atI_nat (i := 2)
theorem atI_3 {α : Type} {ds : List α} : atI ds 3 = ds[3]? := atI_nat (i := 3)
theorem atI_4 {α : Type} {ds : List α} : atI ds 4 = ds[4]? := atI_nat (i := 4)
theorem atI_5 {α : Type} {ds : List α} : atI ds 5 = ds[5]? := atI_nat (i := 5)
theorem atI_6 {α : Type} {ds : List α} : atI ds 6 = ds[6]? := atI_nat (i := 6)

theorem b_len_tup : wpB P .len fz [.tup ds] S Q = Q (.int ds.length) S := rfl
theorem b_len_lst : wpB P .len fz [.lst ds] S Q = Q (.int ds.length) S := rfl
theorem b_len_scr : wpB P .len fz [.scr ds] S Q = Q (.int ds.length) S := rfl
theorem b_len_str : wpB P .len fz [.str x] S Q = (Line x.length ∧ Q (.int x.length) S) := rfl
theorem b_len_dct {ks : List Key} : wpB P .len fz [.dct ks ds] S Q = Q (.int (ks.zip ds).length) S := rfl
theorem b_abs : wpB P .abs fz [.int i] S Q = Q (.int i.natAbs) S := rfl
theorem b_int : wpB P .int fz [.int i] S Q = Q (.int i) S := rfl
theorem b_int_bl : wpB P .int fz [.bl b] S Q = Q (.int (b2I b)) S := rfl
theorem b_max : wpB P .max fz [.int i, .int j] S Q = Q (.int (max i j)) S := rfl
theorem b_min : wpB P .min fz [.int i, .int j] S Q = Q (.int (min i j)) S := rfl
theorem b_divmod : wpB P .divmod fz [.int i, .int j] S Q = (Dvs j ∧ Q (.tup [.int (i / j), .int (i % j)]) S) := rfl
theorem b_str_i : wpB P .str fz [.int i] S Q = (i.natAbs < 2 ^ 1900 ∧ Q (.str (toString i)) S) := rfl
theorem b_str_s : wpB P .str fz [.str x] S Q = Q (.str x) S := rfl
theorem allBl_map : ∀ {bs : List Bool}, allBl (bs.map .bl) = some bs
  | [] => rfl
  | b :: bs => by rw [List.map_cons, allBl, allBl_map]
theorem intsOf_map : ∀ {ns : List Int}, intsOf (ns.map .int) = some ns
  | [] => rfl
  | b :: bs => by rw [List.map_cons, intsOf, intsOf_map]
theorem strsOf_map : ∀ {ns : List Str}, strsOf (ns.map .str) = some ns
  | [] => rfl
  | b :: bs => by rw [List.map_cons, strsOf, strsOf_map]
theorem b_all {bs : List Bool} : wpB P .all fz [.lst (bs.map .bl)] S Q = Q (.bl (bs.all id)) S := by unfold wpB; simp only [lv, allBl_map]
theorem b_any {bs : List Bool} : wpB P .any fz [.lst (bs.map .bl)] S Q = Q (.bl (bs.any id)) S := by unfold wpB; simp only [lv, allBl_map]
theorem b_sum {ns : List Int} : wpB P .sum fz [.lst (ns.map .int)] S Q = Q (.int ns.sum) S := by unfold wpB; simp only [lv, intsOf_map]
theorem b_list_l : wpB P .list fz [.lst ds] S Q = newL fz ds S Q := rfl
theorem b_list_t : wpB P .list fz [.tup ds] S Q = newL fz ds S Q := rfl
theorem b_tuple_l : wpB P .tuple fz [.lst ds] S Q = ((keyish ds = false) ∧ Q (.tup ds) S) := rfl
theorem sv_t : sv S (.tup ds) = some ds := rfl
theorem sv_l : sv S (.lst ds) = some ds := rfl
theorem wk_t : wkSeq S (.tup ds) = some (wkV ds) := rfl
theorem wk_l : wkSeq S (.lst ds) = some (wkV ds) := rfl
theorem wk_s : wkSeq S (.scr ds) = some (wkV ds) := rfl
theorem wkV_g : (wkV ds).g S = True := rfl
theorem wkV_ds : (wkV ds).ds = ds := rfl
theorem wkV_bk : (wkV ds).bk S = S := rfl

theorem put_lst (h : S p = some (.lst ds)) {K : Sto → Prop} : wpPut (.ref p) (.int i) d S K = onO (ixN ds.length i) fun n => K (S.set p (.lst (ds.set n d))) := by
  unfold wpPut
  simp only [h]
  unfold onO; cases ixN ds.length i <;> rfl
theorem ixN_nat {n i : Nat} (h : i < n) : ixN n (i : Int) = some i := by
  unfold ixN
  rw [if_pos (Int.natCast_nonneg i), if_pos (Int.ofNat_lt.mpr h)]
  rfl
theorem ixN_0 {n : Nat} : ixN (n + 1) 0 = some 0 := ixN_nat (i := 0) (Nat.succ_pos n)
theorem ixN_1 {n : Nat} : ixN (n + 2) 1 = some 1 := ixN_nat (i := 1) (by omega)
theorem m_append (h : S p = some (.lst ds)) (hl : ds.length < 16000000) (q : Q .non (S.set p (.lst (ds ++ [d])))) : wpM .append fz (.ref p) [d] S Q := by
  unfold wpM onL
  simp only [h]
  exact ⟨hl, q⟩
theorem ty_ref (h : S p = some (.lst ds)) : tyD S (.ref p) = some "list" := by simp only [tyD, h]
end
end L4

namespace L4
open PySem PySem.Spec PyProof.Rows L2

section
variable {C : CallF} {P : Pg} {ex : Option Exc} {fr : Fr} {S : Sto} {Q : PoE} {E : PoX} {R : Wk → Sto → Prop}
theorem r_oeq {a b : IE} : wpE C P ex (.oeq a b) fr S Q E = (wpE C P ex a fr S (fun x S1 => wpE C P ex b fr S1 (fun y S2 => wpOeq C P x y S2 Q) E) E) := by
  simp only [wpE]
theorem r_ocmp {neg : Bool} {a b : IE} : wpE C P ex (.ocmp neg a b) fr S Q E = (wpE C P ex a fr S (fun x S1 => wpE C P ex b fr S1 (fun y S2 => wpOcmp C P neg x y S2 Q) E) E) := by
  simp only [wpE]
theorem r_cllx {k : Nat} {es : IEs} : wpE C P ex (.cllx k es) fr S Q E = wpEs C P ex es fr S (fun ds S1 => C k ds ex S1 Q noX) E := by
  simp only [wpE]
theorem r_osp {r : Bool} {a : IE} : wpE C P ex (.osp r a) fr S Q E = (wpE C P ex a fr S (fun x S1 => wpOsp C P r [x] S1 Q) E) := by
  simp only [wpE]
theorem r_enm {e : IE} : wpI C P ex (.enm e) fr S R E = (wpE C P ex e fr S (fun x S1 => onO (wkSeq S1 x) fun w => R (w.map (enmD 0)) S1) E) := by
  simp only [wpI]
  refine congrArg (fun z => wpE C P ex e fr S z E) (funext fun x => funext fun S1 => ?_)
  unfold onO; cases wkSeq S1 x <;> rfl
noncomputable def zipK (x y : D) (S2 : Sto) (R : Wk → Sto → Prop) : Prop := match x, y with
    | .tup xs, .tup ys => R (wkV (zipD xs ys)) S2
    | .tup _, _ => False
    | x, .tup ys => match wkSeq S2 x with
      | some w => R (w.and (wkV ys) zipD) S2
      | none => False
    | x, y => match wkSeq S2 x, wkSeq S2 y with
      | some w, some v => R (w.and v zipD) S2
      | _, _ => False
theorem r_zip {a b : IE} : wpI C P ex (.zip a b) fr S R E = (wpE C P ex a fr S (fun x S1 => wpE C P ex b fr S1 (fun y S2 => zipK x y S2 R) E) E) := by
  simp only [wpI]
  rfl
theorem zk_tt {xs ys : List D} : zipK (.tup xs) (.tup ys) S R = R (wkV (zipD xs ys)) S := rfl
theorem zk_ll {xs ys : List D} : zipK (.lst xs) (.lst ys) S R = R (wkV (zipD xs ys)) S := by
  show R ((wkV xs).and (wkV ys) zipD) S = _
  congr 1
  unfold Wk.and wkV
  congr 1
  funext S
  exact propext ⟨fun _ => trivial, fun _ => ⟨trivial, trivial⟩⟩
theorem r_rng2 {a b : IE} : wpI C P ex (.rng2 a b) fr S R E = (wpE C P ex a fr S (fun x S1 => wpE C P ex b fr S1 (fun y S2 => onI x fun i => onI y fun j => (-(2 ^ 62) ≤ i ∧ i < 2 ^ 62 ∧ -(2 ^ 62) ≤ j ∧ j < 2 ^ 62) ∧ R (wkV (rngS i (j - i).toNat)) S2) E) E) := by
  simp only [wpI, rngS_is]
  refine congrArg (fun z => wpE C P ex a fr S z E) (funext fun x => funext fun S1 => ?_)
  refine congrArg (fun z => wpE C P ex b fr S1 z E) (funext fun y => funext fun S2 => ?_)
  unfold onI
  cases x <;> cases y <;> rfl
noncomputable def dctK (w : Dw) (x : D) (S1 : Sto) (R : Wk → Sto → Prop) : Prop := match x with
    | .dct ks vs => R (wkV (walkD w (ks.zip vs))) S1
    | .dc2 ks vs => w = .keys ∧ R (wkV (walkD2 w (ks.zip vs))) S1
    | _ => False
theorem r_dct {w : Dw} {e : IE} : wpI C P ex (.dct w e) fr S R E = (wpE C P ex e fr S (fun x S1 => dctK w x S1 R) E) := by
  simp only [wpI]
  rfl
theorem dk_d {w : Dw} {ks : List Key} {vs : List D} : dctK w (.dct ks vs) S R = R (wkV (walkD w (ks.zip vs))) S := rfl
theorem dk_d2 {w : Dw} {ks : List (Int × Str)} {vs : List D} : dctK w (.dc2 ks vs) S R = (w = .keys ∧ R (wkV (walkD2 w (ks.zip vs))) S) := rfl
theorem wk_map {ds : List D} {f : List D → List D} : (wkV ds).map f = wkV (f ds) := rfl
variable {i j : Int} {x : Str} {b c : Bool} {a d : D} {fz : Bool} {xs ys ds vs : List D} {ns : List Str} {k : Nat} {p : Addr} {lo hi : Option Int}
theorem isNo_non : isNo .non = true := rfl
theorem isNo_int : isNo (.int i) = false := rfl
theorem isNo_str : isNo (.str x) = false := rfl
theorem isNo_bl : isNo (.bl b) = false := rfl
theorem isNo_tup : isNo (.tup xs) = false := rfl
theorem isNo_lst : isNo (.lst xs) = false := rfl
theorem isNo_ref : isNo (.ref p) = false := rfl
theorem isNo_ins : isNo (.ins k ns vs) = false := rfl
theorem isNo_dct {ks : List Key} : isNo (.dct ks vs) = false := rfl
theorem c_isb : wpCmp .is_ (.bl b) (.bl c) S Q = Q (.bl (b == c)) S := rfl
theorem c_isnotb : wpCmp .isnot (.bl b) (.bl c) S Q = Q (.bl (!(b == c))) S := rfl
theorem oe_int : wpOeq C P (.int i) d S Q = wpCmp .eq (.int i) d S Q := rfl
theorem oe_str : wpOeq C P (.str x) d S Q = wpCmp .eq (.str x) d S Q := rfl
theorem oe_bl : wpOeq C P (.bl b) d S Q = wpCmp .eq (.bl b) d S Q := rfl
theorem oe_non : wpOeq C P .non d S Q = wpCmp .eq .non d S Q := rfl
theorem oe_tup : wpOeq C P (.tup xs) d S Q = wpCmp .eq (.tup xs) d S Q := rfl
theorem oe_lst : wpOeq C P (.lst xs) d S Q = wpCmp .eq (.lst xs) d S Q := rfl
theorem oe_ins : wpOeq C P (.ins k ns vs) d S Q = onO (P.mth k "__eq__") fun m => (k < P.ncl ∧ eqOk P S k d = true) ∧ C m [.ins k ns vs, d] none S (fun d S' => (∃ r, d = .bl r) ∧ Q d S') noX := by
  unfold wpOeq icD onO; dsimp only; cases P.mth k "__eq__" <;> rfl
theorem os_rep : wpOsp C P true [.ins k ns vs] S Q = onO (P.mth k "__repr__") fun m => C m [.ins k ns vs] none S (fun d S' => (∃ z, d = .str z) ∧ Q d S') noX := by
  unfold wpOsp icD onO; simp only [if_true]; cases P.mth k "__repr__" <;> rfl
theorem os_len : wpOsp C P false [.ins k ns vs] S Q = onO (P.mth k "__len__") fun m => C m [.ins k ns vs] none S (fun d S' => (∃ n : Int, d = .int n ∧ 0 ≤ n ∧ n < 2 ^ 63) ∧ Q d S') noX := by
  unfold wpOsp icD onO; simp only [Bool.false_eq_true, if_false]; cases P.mth k "__len__" <;> rfl
theorem eqOk_non : eqOk P S k .non = true := rfl
theorem eqOk_int : eqOk P S k (.int i) = true := rfl
theorem eqOk_bl : eqOk P S k (.bl b) = true := rfl
theorem eqOk_str : eqOk P S k (.str x) = true := rfl
theorem eqOk_tup : eqOk P S k (.tup xs) = true := rfl
theorem eqOk_lst : eqOk P S k (.lst xs) = true := rfl
theorem eqOk_ins {m : Nat} : eqOk P S k (.ins m ns vs) = ((P.ini m).isSome && decide (m < P.ncl) && (!P.sub m k || m == k)) := rfl
theorem sl_tup : wpSl fz (.tup xs) lo hi S Q = ((keyish (cutD xs lo hi) = false) ∧ Q (.tup (cutD xs lo hi)) S) := rfl
theorem sl_str : wpSl fz (.str x) lo hi S Q = (Line x.length ∧ Q (.str (cutS x lo hi)) S) := rfl
theorem sl_lst : wpSl fz (.lst xs) lo hi S Q = newL fz (cutD xs lo hi) S Q := rfl
theorem iv_i : iv S (.ins k ns vs) = some (k, ns.zip vs) := rfl
theorem fld_i {x : Str} : wpFld P x (.ins k ns vs) S Q = (x ∈ P.flds k ∧ onO ((ns.zip vs).lookup x) fun d => Q d S) := by
  unfold wpFld iv onO; dsimp only; cases (ns.zip vs).lookup x <;> rfl
theorem fset_r {x : Str} {fs : List (Str × D)} {K : Sto → Prop} (h : S p = some (.ins k fs)) : wpFset P x (.ref p) d S K = ((x ∈ P.flds k ∧ fs.length < 900) ∧ K (S.set p (.ins k (putFD x d fs)))) := by
  unfold wpFset; simp only [h]
theorem b_isi : wpB P .isi fz [a, d] S Q = onO (clsOf P d) fun us => onO (isiD P S a us) fun b => Q (.bl b) S := by
  unfold wpB onO
  dsimp only
  cases clsOf P d with
  | none => rfl
  | some us => dsimp only; cases isiD P S a us <;> rfl
theorem idx_str : wpIdx (.str x) (.int i) S Q = onO (atI x.cps.toList i) fun c => Line x.length ∧ Q (.str ⟨#[c]⟩) S := by
  show (match atI x.cps.toList i with
    | some c => Line x.length ∧ Q (.str ⟨#[c]⟩) S
    | none => False) = _
  unfold onO; cases atI x.cps.toList i <;> rfl
theorem m_join : wpM .join fz (.str x) [.lst xs] S Q = onO (strsOf xs) fun ys => Line ((ys.map (·.length)).sum + ys.length * x.length) ∧ Q (.str (Txt.join x ys)) S := by
  unfold wpM onO
  simp only [lv]
  cases strsOf xs <;> rfl
theorem ty_str : (tyD S (.str x) = some (Bm.ty .join)) = True := eq_true rfl
theorem c_notin : wpCmp .notin a d S Q = inC a d S fun c => Q (.bl (!c)) S := rfl
theorem in_seq {K : Bool → Prop} (h : sv S d = some ys) (h1 : plainN 60 (topD S a) = true) (h2 : plainNs 59 ys = true) (k : K (ys.any fun y => eqD y (topD S a))) : inC a d S K := by
  unfold inC
  rw [h]
  exact .inl ⟨⟨h1, h2⟩, k⟩

theorem ky_nil : keyish [] = false := rfl
theorem ky_str : keyish (.str x :: ds) = false := rfl
theorem ky_tup : keyish (.tup xs :: ds) = false := rfl
theorem ky_lst : keyish (.lst xs :: ds) = false := rfl
theorem ky_non : keyish (.non :: ds) = false := rfl
theorem ky_ins : keyish (.ins k ns vs :: ds) = false := rfl
theorem ky_1 : keyish [d] = false := by cases d <;> rfl
theorem ky_3 {a b c : D} : keyish (a :: b :: c :: ds) = false := by
  unfold keyish
  split
  · rename_i h; cases h
  · rfl
theorem cl_int : clsOf P (.ty "int") = some [.ty "int"] := rfl
theorem cl_bool : clsOf P (.ty "bool") = some [.ty "bool"] := rfl
theorem cl_str : clsOf P (.ty "str") = some [.ty "str"] := rfl
theorem cl_list : clsOf P (.ty "list") = some [.ty "list"] := rfl
theorem cl_tuple : clsOf P (.ty "tuple") = some [.ty "tuple"] := rfl
theorem cl_dict : clsOf P (.ty "dict") = some [.ty "dict"] := rfl
theorem cl_lt : clsOf P (.tup [.ty "list", .ty "tuple"]) = some [.ty "list", .ty "tuple"] := rfl
variable {us : List Cl}
theorem is_non : isiD P S .non us = some (us.any (isT "NoneType")) := rfl
theorem is_int : isiD P S (.int i) us = some (us.any (isT "int")) := rfl
theorem is_bl : isiD P S (.bl b) us = some (us.any (isT "bool")) := rfl
theorem is_str : isiD P S (.str x) us = some (us.any (isT "str")) := rfl
theorem is_tup : isiD P S (.tup xs) us = some (us.any (isT "tuple")) := rfl
theorem is_lst : isiD P S (.lst xs) us = some (us.any (isT "list")) := rfl
theorem is_dct {ks : List Key} : isiD P S (.dct ks xs) us = some (us.any (isT "dict")) := rfl
section
variable {α : Type} {zs : List α} {u v : Nat}
theorem cutN_to : cutD zs none (some (u : Int)) = zs.take u := by
  unfold cutD
  rw [HT.sIx_nat, HT.sIx_none, List.drop_zero, Nat.sub_zero, ← List.take_eq_take_min]
theorem cutN_from : cutD zs (some (u : Int)) none = zs.drop u := by
  unfold cutD
  rw [HT.sIx_nat, HT.sIx_none]
  by_cases h : u ≤ zs.length
  · rw [Nat.min_eq_left h, List.take_of_length_le (by simp)]
  · rw [List.drop_eq_nil_of_le (by omega), List.drop_eq_nil_of_le (by omega), List.take_nil]
theorem cutN_both : cutD zs (some (u : Int)) (some (v : Int)) = (zs.drop u).take (v - u) := by
  unfold cutD
  rw [HT.sIx_nat, HT.sIx_nat]
  by_cases h : u ≤ zs.length
  · rw [Nat.min_eq_left h]
    by_cases h2 : v ≤ zs.length
    · rw [Nat.min_eq_left h2]
    · rw [Nat.min_eq_right (by omega), List.take_of_length_le (by simp), List.take_of_length_le (by simp; omega)]
  · rw [Nat.min_eq_right (by omega : zs.length ≤ u), List.drop_eq_nil_of_le (by omega), List.drop_eq_nil_of_le (by omega), List.take_nil, List.take_nil]
theorem cutL_to : cutD zs none (some (no_index (@OfNat.ofNat Int u (@instOfNat u)))) = zs.take u := cutN_to
theorem cutL_from : cutD zs (some (no_index (@OfNat.ofNat Int u (@instOfNat u)))) none = zs.drop u := cutN_from
theorem cutL_both : cutD zs (some (no_index (@OfNat.ofNat Int u (@instOfNat u)))) (some (no_index (@OfNat.ofNat Int v (@instOfNat v)))) = (zs.drop u).take (v - u) := cutN_both
end
end
end L4

namespace L4
open PySem
open scoped Rat

noncomputable def frQ (q : Rat) : D := .tup [.int q.num, .int q.den]

noncomputable def sg (a b : Int) : Int := if b < 0 then -(Int.gcd a b : Int) else (Int.gcd a b : Int)
theorem gcd_pos {a b : Int} (hb : b ≠ 0) : 0 < (Int.gcd a b : Int) := by
  have : Int.gcd a b ≠ 0 := fun e => hb (Int.gcd_eq_zero_iff.mp e).2
  omega
theorem sg_ne {a b : Int} (hb : b ≠ 0) : sg a b ≠ 0 := by
  have := gcd_pos (a := a) hb
  unfold sg
  split <;> omega
theorem fdiv_mul_self {g k : Int} (hg : g ≠ 0) : (g * k).fdiv g = k := Int.mul_fdiv_cancel_left k hg
theorem low_num {a b : Int} (hb : b ≠ 0) : a.fdiv (sg a b) = (a /. b).num := by
  have hg := gcd_pos (a := a) hb
  obtain ⟨k, hk⟩ : (Int.gcd a b : Int) ∣ a := Int.gcd_dvd_left ..
  rw [Rat.num_divInt, Int.gcd_comm b a]
  have e : ∀ g : Int, 0 < g → a = g * k → (b.sign * a) / g = b.sign * k := fun g h1 h2 => by
    rw [h2, show b.sign * (g * k) = g * (b.sign * k) by grind, Int.mul_ediv_cancel_left _ (by omega)]
  rw [e _ hg hk]
  unfold sg
  split
  · rename_i h
    rw [Int.sign_eq_neg_one_of_neg h]
    generalize hG : (Int.gcd a b : Int) = G at hg hk
    rw [hk, show G * k = -G * (-k) by grind, fdiv_mul_self (by omega)]
    omega
  · rename_i h
    rw [Int.sign_eq_one_of_pos (by omega)]
    generalize hG : (Int.gcd a b : Int) = G at hg hk
    rw [hk, fdiv_mul_self (by omega)]
    omega
theorem low_den {a b : Int} (hb : b ≠ 0) : b.fdiv (sg a b) = ((a /. b).den : Int) := by
  have hg := gcd_pos (a := a) hb
  obtain ⟨k, hk⟩ : (Int.gcd a b : Int) ∣ b := Int.gcd_dvd_right ..
  rw [Rat.den_divInt, if_neg hb, Int.gcd_comm b a]
  have hn : ((b.natAbs / Int.gcd a b : Nat) : Int) = (b.natAbs : Int) / (Int.gcd a b : Int) := Int.natCast_ediv ..
  rw [hn]
  unfold sg
  split
  · rename_i h
    have h2 : (b.natAbs : Int) = -b := by omega
    rw [h2]
    generalize hG : (Int.gcd a b : Int) = G at hg hk
    rw [hk, show -(G * k) = G * (-k) by grind, Int.mul_ediv_cancel_left _ (by omega), show G * k = -G * (-k) by grind, fdiv_mul_self (by omega)]
  · rename_i h
    have h2 : (b.natAbs : Int) = b := by omega
    rw [h2]
    generalize hG : (Int.gcd a b : Int) = G at hg hk
    rw [hk, Int.mul_ediv_cancel_left _ (by omega), fdiv_mul_self (by omega)]

noncomputable def Sz (e : Nat) (q : Rat) : Prop := q.num.natAbs < 2 ^ e ∧ q.den < 2 ^ e
theorem Sz.mono {d e : Nat} {q : Rat} (h : Sz d q) (k : d ≤ e) : Sz e q := ⟨Nat.lt_of_lt_of_le h.1 (Nat.pow_le_pow_right (by decide) k), Nat.lt_of_lt_of_le h.2 (Nat.pow_le_pow_right (by decide) k)⟩
theorem num_le {a b : Int} : (a /. b).num.natAbs ≤ a.natAbs := by
  by_cases hb : b = 0
  · subst hb; simp
  · rw [← low_num hb]
    exact Int.natAbs_fdiv_le_natAbs ..
theorem den_le {a b : Int} (hb : b ≠ 0) : (a /. b).den ≤ b.natAbs := by
  rw [Rat.den_divInt, if_neg hb]
  exact Nat.div_le_self ..
theorem den_pos (q : Rat) : 0 < q.den := Nat.pos_of_ne_zero q.den_nz
theorem add_is (p q : Rat) : (p.num * q.den + q.num * p.den) /. (p.den * q.den) = p + q := by
  have h1 := Rat.num_divInt_den p
  have h2 := Rat.num_divInt_den q
  have h3 := Rat.divInt_add_divInt p.num q.num (d₁ := p.den) (d₂ := q.den) (by have := den_pos p; omega) (by have := den_pos q; omega)
  rw [h1, h2] at h3
  exact h3.symm
theorem mul_is (p q : Rat) : (p.num * q.num) /. (p.den * q.den) = p * q := by
  have h1 := Rat.num_divInt_den p
  have h2 := Rat.num_divInt_den q
  have h3 := Rat.divInt_mul_divInt p.num q.num (d₁ := p.den) (d₂ := q.den)
  rw [h1, h2] at h3
  exact h3.symm
theorem lt_is (p q : Rat) : (p.num * q.den < q.num * p.den) ↔ p < q := (Rat.lt_iff p q).symm
theorem pow_lt2 {a b d e : Nat} (h : a < 2 ^ d) (k : b < 2 ^ e) : a * b < 2 ^ (d + e) := by
  rw [Nat.pow_add]
  exact Nat.mul_lt_mul'' h k
theorem Sz.add {d e : Nat} {p q : Rat} (h : Sz d p) (k : Sz e q) : Sz (d + e + 1) (p + q) := by
  have hp := den_pos p
  have hq := den_pos q
  rw [← add_is]
  constructor
  · refine Nat.lt_of_le_of_lt num_le ?_
    refine Nat.lt_of_le_of_lt (Int.natAbs_add_le ..) ?_
    rw [Int.natAbs_mul, Int.natAbs_mul, Int.natAbs_natCast, Int.natAbs_natCast, Nat.pow_succ]
    have h1 := pow_lt2 h.1 k.2
    have h2 := pow_lt2 k.1 h.2
    rw [Nat.add_comm e d] at h2
    omega
  · refine Nat.lt_of_le_of_lt (den_le (Int.mul_ne_zero (by omega) (by omega))) ?_
    rw [Int.natAbs_mul, Int.natAbs_natCast, Int.natAbs_natCast, Nat.pow_succ]
    have h1 := pow_lt2 h.2 k.2
    omega
theorem Sz.mul {d e : Nat} {p q : Rat} (h : Sz d p) (k : Sz e q) : Sz (d + e) (p * q) := by
  have hp := den_pos p
  have hq := den_pos q
  rw [← mul_is]
  constructor
  · refine Nat.lt_of_le_of_lt num_le ?_
    rw [Int.natAbs_mul]
    exact pow_lt2 h.1 k.1
  · refine Nat.lt_of_le_of_lt (den_le (Int.mul_ne_zero (by omega) (by omega))) ?_
    rw [Int.natAbs_mul, Int.natAbs_natCast, Int.natAbs_natCast]
    exact pow_lt2 h.2 k.2
theorem Sz.neg {d : Nat} {p : Rat} (h : Sz d p) : Sz d (-p) := ⟨by rw [Rat.neg_num, Int.natAbs_neg]; exact h.1, by rw [Rat.neg_den]; exact h.2⟩
theorem Sz.sub {d e : Nat} {p q : Rat} (h : Sz d p) (k : Sz e q) : Sz (d + e + 1) (p - q) := by rw [Rat.sub_eq_add_neg]; exact h.add k.neg
theorem Sz.of {a b : Int} {e : Nat} (hb : b ≠ 0) (h1 : a.natAbs < 2 ^ e) (h2 : b.natAbs < 2 ^ e) : Sz e (a /. b) := ⟨Nat.lt_of_le_of_lt num_le h1, Nat.lt_of_le_of_lt (den_le hb) h2⟩
theorem ix_q0 {q : Rat} {S : Sto} {Q : PoE} : wpIdx (frQ q) (.int 0) S Q = Q (.int q.num) S := rfl
theorem ix_q1 {q : Rat} {S : Sto} {Q : PoE} : wpIdx (frQ q) (.int 1) S Q = Q (.int q.den) S := rfl
theorem isNo_frQ {q : Rat} : isNo (frQ q) = false := rfl
theorem Sz.zero {e : Nat} (h : 1 ≤ e) : Sz e 0 := ⟨Nat.two_pow_pos e, Nat.one_lt_two_pow (by omega)⟩
theorem Sz.one {e : Nat} (h : 1 ≤ e) : Sz e 1 := ⟨Nat.one_lt_two_pow (by omega), Nat.one_lt_two_pow (by omega)⟩
theorem ky_q {q : Rat} {ds : List D} : keyish (frQ q :: ds) = false := rfl
end L4

namespace L4
open PySem
local macro_rules | `(tactic| wp_walk using $ls:term,*) => `(tactic| simp only [r_var, r_cst, r_fnv, r_clv, r_tyv, r_gc, r_bin, r_neg, r_nt, r_cmp, r_conj, r_disj, r_ite, r_tup, r_lst, r_dsp0, r_dsp, r_idx, r_fld, r_call, r_callk, r_callv, r_make, r_mcl, r_blt, r_comp, r_fst, r_frz, r_met, r_rvs, r_slc00, r_slc10, r_slc01, r_slc11, r_chain, r_conj1, r_conj2, r_disj1, r_disj2, r_ts0, r_ts1, r_es0, r_es1, r_asg, r_asgc, r_par, r_asgt, r_sub, r_fset, r_exp, r_ret, r_retn, r_ifs, r_fors, r_whil, r_rais, r_pass, r_frzs, r_tryo, r_anm, r_asub, r_as0, r_as1, r_rng1, r_seq, r_txt, r_rev, onB_t, onB_f, onB_n, onI_i, onS_s, onT_t, onR_r, onV_s, onF_f, onO_s, onG_s, sv_t, sv_l, wk_t, wk_l, wk_s, newL_t, newL_f, bin_add, bin_cat, bin_catT, bin_catL, bin_sub, bin_mul, bin_repL, bin_mod, bin_fdiv, bin_pow, c_eq_i, c_eq_s, c_eq_b, c_ne_i, c_ne_s, c_ne_b, c_lt, c_lt_s, c_le, c_gt, c_ge, c_is, c_isnot, idx_tup, idx_lst, idx_scr, atI_0, atI_1, atI_2, atI_3, atI_4, atI_5, atI_6, atI_nat, b_len_tup, b_len_lst, b_len_scr, b_len_str, b_len_dct, b_abs, b_int, b_int_bl, b_max, b_min, b_divmod, b_str_i, b_str_s, b_all, b_any, b_sum, b_list_l, b_list_t, b_tuple_l, wpF, bindG, bindGs, ITs.len, IEs.len, pick, startD, L4.Po.behind, id_eq, Sto.same, Sto.set_set, List.map_cons, List.map_nil, List.length_cons, List.length_nil, List.getElem?_cons_zero, List.getElem?_cons_succ, List.set_cons_zero, List.set_cons_succ, List.replicate, List.cons_append, List.nil_append, List.append_nil, List.filterMap_cons, List.filterMap_nil, Nat.reduceAdd, Nat.reduceSub, Nat.reduceLeDiff, Nat.reduceEqDiff, Int.reduceToNat, Int.reducePow, Int.reduceMul, Int.reduceSub, Int.reduceAdd, Int.reduceNeg, Int.reduceLE, Int.reduceLT, true_and, and_true, decide_true, decide_false, Bool.not_true, Bool.not_false, reduceCtorEq, ne_eq, not_false_eq_true, r_oeq, r_osp, r_cllx, r_ocmp, r_enm, r_zip, zk_tt, zk_ll, r_rng2, r_dct, dk_d, dk_d2, wk_map, c_isb, c_isnotb, oe_int, oe_str, oe_bl, oe_non, oe_tup, oe_lst, oe_ins, os_rep, os_len, eqOk_non, eqOk_int, eqOk_bl, eqOk_str, eqOk_tup, eqOk_lst, eqOk_ins, sl_tup, sl_str, sl_lst, iv_i, fld_i, b_isi, cl_int, cl_bool, cl_str, cl_list, cl_tuple, cl_dict, cl_lt, is_non, is_int, is_bl, is_str, is_tup, is_lst, is_dct, isT, isSub, List.any_cons, List.any_nil, Bool.or_false, Bool.false_or, Bool.or_true, Bool.true_or, Bool.and_true, Bool.true_and, Bool.and_false, Bool.false_and, String.reduceBEq, wkV_g, wkV_ds, wkV_bk, idx_str, m_join, ty_str, wipeD, List.foldl_cons, List.foldl_nil, ix_q0, ix_q1, isNo_non, isNo_int, isNo_str, isNo_bl, isNo_tup, isNo_lst, isNo_ref, isNo_ins, isNo_dct, isNo_frQ, bin_repT, cutL_to, cutL_from, cutL_both, cutN_to, cutN_from, cutN_both, List.take_succ_cons, List.take_zero, List.drop_succ_cons, List.drop_zero, List.take_nil, List.drop_nil, ky_nil, ky_str, ky_tup, ky_lst, ky_non, ky_ins, ky_1, ky_3, ky_q, Bool.true_beq, Bool.false_beq, bin_repS, r_frzo, $[$ls:term],*])
local macro_rules | `(tactic| walk_at "l3 wxs") => `(tactic| simp only [r_var, r_cst, r_fnv, r_clv, r_tyv, r_gc, r_bin, r_neg, r_nt, r_cmp, r_conj, r_disj, r_ite, r_tup, r_lst, r_dsp0, r_dsp, r_idx, r_fld, r_call, r_callk, r_callv, r_make, r_mcl, r_blt, r_comp, r_fst, r_frz, r_met, r_rvs, r_slc00, r_slc10, r_slc01, r_slc11, r_chain, r_conj1, r_conj2, r_disj1, r_disj2, r_ts0, r_ts1, r_es0, r_es1, r_asg, r_asgc, r_par, r_asgt, r_sub, r_fset, r_exp, r_ret, r_retn, r_ifs, r_fors, r_whil, r_rais, r_pass, r_frzs, r_tryo, r_anm, r_asub, r_as0, r_as1, r_rng1, r_seq, r_txt, r_rev, onB_t, onB_f, onB_n, onI_i, onS_s, onT_t, onR_r, onV_s, onF_f, onO_s, onG_s, sv_t, sv_l, wk_t, wk_l, wk_s, newL_t, newL_f, bin_add, bin_cat, bin_catT, bin_catL, bin_sub, bin_mul, bin_repL, bin_mod, bin_fdiv, bin_pow, c_eq_i, c_eq_s, c_eq_b, c_ne_i, c_ne_s, c_ne_b, c_lt, c_lt_s, c_le, c_gt, c_ge, c_is, c_isnot, idx_tup, idx_lst, idx_scr, atI_0, atI_1, atI_2, atI_3, atI_4, atI_5, atI_6, atI_nat, b_len_tup, b_len_lst, b_len_scr, b_len_str, b_len_dct, b_abs, b_int, b_int_bl, b_max, b_min, b_divmod, b_str_i, b_str_s, b_all, b_any, b_sum, b_list_l, b_list_t, b_tuple_l, wpF, bindG, bindGs, ITs.len, IEs.len, pick, startD, L4.Po.behind, id_eq, Sto.same, Sto.set_set, List.map_cons, List.map_nil, List.length_cons, List.length_nil, List.getElem?_cons_zero, List.getElem?_cons_succ, List.set_cons_zero, List.set_cons_succ, List.replicate, List.cons_append, List.nil_append, List.append_nil, List.filterMap_cons, List.filterMap_nil, Nat.reduceAdd, Nat.reduceSub, Nat.reduceLeDiff, Nat.reduceEqDiff, Int.reduceToNat, Int.reducePow, Int.reduceMul, Int.reduceSub, Int.reduceAdd, Int.reduceNeg, Int.reduceLE, Int.reduceLT, true_and, and_true, decide_true, decide_false, Bool.not_true, Bool.not_false, reduceCtorEq, ne_eq, not_false_eq_true, r_oeq, r_osp, r_cllx, r_ocmp, r_enm, r_zip, zk_tt, zk_ll, r_rng2, r_dct, dk_d, dk_d2, wk_map, c_isb, c_isnotb, oe_int, oe_str, oe_bl, oe_non, oe_tup, oe_lst, oe_ins, os_rep, os_len, eqOk_non, eqOk_int, eqOk_bl, eqOk_str, eqOk_tup, eqOk_lst, eqOk_ins, sl_tup, sl_str, sl_lst, iv_i, fld_i, b_isi, cl_int, cl_bool, cl_str, cl_list, cl_tuple, cl_dict, cl_lt, is_non, is_int, is_bl, is_str, is_tup, is_lst, is_dct, isT, isSub, List.any_cons, List.any_nil, Bool.or_false, Bool.false_or, Bool.or_true, Bool.true_or, Bool.and_true, Bool.true_and, Bool.and_false, Bool.false_and, String.reduceBEq, wkV_g, wkV_ds, wkV_bk, idx_str, m_join, ty_str, wipeD, List.foldl_cons, List.foldl_nil, ix_q0, ix_q1, isNo_non, isNo_int, isNo_str, isNo_bl, isNo_tup, isNo_lst, isNo_ref, isNo_ins, isNo_dct, isNo_frQ, bin_repT, cutL_to, cutL_from, cutL_both, cutN_to, cutN_from, cutN_both, List.take_succ_cons, List.take_zero, List.drop_succ_cons, List.drop_zero, List.take_nil, List.drop_nil, ky_nil, ky_str, ky_tup, ky_lst, ky_non, ky_ins, ky_1, ky_3, ky_q, Bool.true_beq, Bool.false_beq, bin_repS, r_frzo])
local macro_rules | `(tactic| walk_at "l3 wst") => `(tactic| (refine stepS rfl ?_; walk_at "l3 wxs"))
local macro_rules | `(tactic| walk_at "l3 wnl") => `(tactic| (refine nilS rfl ?_; (try walk_at "l3 wxs")))
open scoped Rat

theorem le0 {S : Sto} : Sto.le S S := fun _ _ h => h

@[reducible] def retP (Q : PoE) (E : PoX) : Po := { nx := fun _ S' => ∃ S2, Sto.le S2 S' ∧ Q .non S2, rt := fun d S' => ∃ S2, Sto.le S2 S' ∧ Q d S2, xc := fun x _ S' => ∃ S2, Sto.le S2 S' ∧ E x S2 }
theorem gcd_fmod (a b : Int) : Int.gcd b (a.fmod b) = Int.gcd a b := by
  rw [Int.fmod_def, Int.gcd_sub_mul_left_right, Int.gcd_comm]
theorem fmod_lt (a b : Int) (h : b ≠ 0) : (a.fmod b).natAbs < b.natAbs := by
  rcases Int.lt_or_gt_of_ne h with h | h
  · have h1 := @Int.fmod_eq_emod a b
    have h2 := Int.emod_nonneg a (Int.ne_of_lt h)
    have h3 := Int.emod_lt a (Int.ne_of_lt h)
    have h4 := @Int.emod_add_mul_ediv a b
    split at h1
    · omega
    · rename_i h5
      have h6 : a % b ≠ 0 := fun z => h5 (.inr (Int.dvd_of_emod_eq_zero z))
      omega
  · have h1 := Int.fmod_nonneg_of_pos a h
    have h2 := Int.fmod_lt_of_pos a h
    omega
section
variable {C : CallF} {P : Pg} {ex : Option Exc} {S : Sto} {Q : PoE} {E : PoX} {Po : L4.Po}
theorem gcd_loop {a b : Int} (h : ∀ z : Int, z.natAbs = Int.gcd a b → Po.nx [some (.int z), some (.int 0)] S) :
    ∃ m, whileW (wpE C P ex (.cmp .ne (.var 1) (.cst (.int 0)))) (wpSs C P ex (.cons (.par 0 1 (.var 1) (.bin .mod true (.var 0) (.var 1))) .nil)) m [some (.int a), some (.int b)] S Po := by
  have key : ∀ (k : Nat) (x y : Int), y.natAbs < k → Int.gcd x y = Int.gcd a b → ∃ m, whileW (wpE C P ex (.cmp .ne (.var 1) (.cst (.int 0)))) (wpSs C P ex (.cons (.par 0 1 (.var 1) (.bin .mod true (.var 0) (.var 1))) .nil)) m [some (.int x), some (.int y)] S Po := by
    intro k
    induction k with
    | zero => intro x y hy; omega
    | succ k ih =>
      intro x y hy hg
      by_cases h0 : y = 0
      · subst h0
        refine ⟨1, ?_⟩
        unfold whileW
        walk_at "l3 wxs"
        refine h x ?_
        rw [← hg, Int.gcd_zero_right]
      · obtain ⟨m, hm⟩ := ih y (x.fmod y) (by have := fmod_lt x y h0; omega) (by rw [gcd_fmod]; exact hg)
        refine ⟨m + 1, ?_⟩
        unfold whileW
        (wp_walk using h0)
        refine stepS rfl ?_
        (wp_walk using h0)
        refine nilS rfl ?_
        exact hm
  exact key _ a b (Nat.lt_succ_self _) rfl
theorem commonB {a b : Int} (h : Q (.int (Int.gcd a b)) S) : wpSs C P none (.cons (.whil (.cmp .ne (.var 1) (.cst (.int 0))) (.cons (.par 0 1 (.var 1) (.bin .mod true (.var 0) (.var 1))) .nil)) (.cons (.ret (.blt .abs true (.cons (.var 0) .nil))) .nil)) (startD 2 [.int a, .int b]) S (retP Q E) := by
  walk_at "l3 wst"
  refine gcd_loop fun z hz => ?_
  walk_at "l3 wst"
  exact ⟨S, le0, by rw [hz]; exact h⟩

noncomputable abbrev ComS (C : CallF) (k : Nat) : Prop := ∀ (a b : Int) (S : Sto) (Q : PoE) (E : PoX), Q (.int (Int.gcd a b)) S → C k [.int a, .int b] none S Q E
theorem fractionB {k_common x_NoFraction : Nat} {a b : Int} (hc : ComS C k_common) (hb : b ≠ 0) (hs : b.natAbs < 2 ^ 8900) (h : Q (frQ (a /. b)) S) : wpSs C P none (.cons (.ifs (.cmp .eq (.var 1) (.cst (.int 0))) (.cons (.rais x_NoFraction .nil) .nil) .nil) (.cons (.asg 2 (.call k_common (.cons (.var 0) (.cons (.var 1) .nil)))) (.cons (.ifs (.cmp .lt (.var 1) (.cst (.int 0))) (.cons (.asg 2 (.neg (.var 2))) .nil) .nil) (.cons (.ret (.tup (.cons (.bin .fdiv true (.var 0) (.var 2)) (.cons (.bin .fdiv true (.var 1) (.var 2)) .nil)))) .nil))))
    (startD 3 [.int a, .int b]) S (retP Q E) := by
  have h1 := sg_ne (a := a) hb
  have h2 : (sg a b).natAbs < 2 ^ 8900 := by
    have hg := gcd_pos (a := a) hb
    have hd : (Int.gcd a b : Int) ∣ b := Int.gcd_dvd_right ..
    have := Int.natAbs_dvd_natAbs.mpr hd
    have := Nat.le_of_dvd (by omega) this
    unfold sg
    split <;> omega
  unfold frQ at h
  rw [← low_num hb, ← low_den hb] at h
  walk_at "l3 wst"
  (((try walk_at "l3 wxs"); refine onB_d (fun h0 => ?_) (fun h0 => ?_) <;> (try walk_at "l3 wxs")))
  · exact absurd h0 hb
  walk_at "l3 wnl"
  walk_at "l3 wst"
  refine hc _ _ _ _ _ ?_
  walk_at "l3 wst"
  unfold sg at h h1 h2
  (((try walk_at "l3 wxs"); refine onB_d (fun h3 => ?_) (fun h3 => ?_) <;> (try walk_at "l3 wxs")))
  · rw [if_pos h3] at h h1 h2
    walk_at "l3 wst"
    walk_at "l3 wnl"
    walk_at "l3 wst"
    exact ⟨⟨h1, h2⟩, ⟨h1, h2⟩, S, le0, h⟩
  · rw [if_neg h3] at h h1 h2
    walk_at "l3 wnl"
    walk_at "l3 wst"
    exact ⟨⟨h1, h2⟩, ⟨h1, h2⟩, S, le0, h⟩

theorem fractionX {k_common x_NoFraction : Nat} {a : Int} (hx : P.xfs x_NoFraction = []) (h : E ⟨.cls x_NoFraction, []⟩ S) : wpSs C P none (.cons (.ifs (.cmp .eq (.var 1) (.cst (.int 0))) (.cons (.rais x_NoFraction .nil) .nil) .nil) (.cons (.asg 2 (.call k_common (.cons (.var 0) (.cons (.var 1) .nil)))) (.cons (.ifs (.cmp .lt (.var 1) (.cst (.int 0))) (.cons (.asg 2 (.neg (.var 2))) .nil) .nil) (.cons (.ret (.tup (.cons (.bin .fdiv true (.var 0) (.var 2)) (.cons (.bin .fdiv true (.var 1) (.var 2)) .nil)))) .nil))))
    (startD 3 [.int a, .int 0]) S (retP Q E) := by
  walk_at "l3 wst"
  walk_at "l3 wst"
  rw [hx]
  exact ⟨by simp, S, le0, by simpa using h⟩

noncomputable abbrev FraS (C : CallF) (k : Nat) : Prop := ∀ (a b : Int) (S : Sto) (Q : PoE) (E : PoX), b ≠ 0 → b.natAbs < 2 ^ 8900 → Q (frQ (a /. b)) S → C k [.int a, .int b] none S Q E
theorem mul_of {i j : Int} {d e : Nat} (h1 : i.natAbs < 2 ^ d) (h2 : j.natAbs < 2 ^ e) (hd : d ≤ 4000) (he : e ≤ 4000) : Mul i j := ⟨Nat.lt_of_lt_of_le h1 (Nat.pow_le_pow_right (by decide) (by omega)), Nat.lt_of_lt_of_le h2 (Nat.pow_le_pow_right (by decide) (by omega))⟩
theorem den_ne (q : Rat) : (q.den : Int) ≠ 0 := by have := den_pos q; omega
theorem Sz.den {e : Nat} {q : Rat} (h : Sz e q) : ((q.den : Int)).natAbs < 2 ^ e := by rw [Int.natAbs_natCast]; exact h.2
theorem dd_lt {p q : Rat} (hp : Sz 4000 p) (hq : Sz 4000 q) : ((p.den : Int) * q.den).natAbs < 2 ^ 8900 := by
  rw [Int.natAbs_mul]
  exact Nat.lt_of_lt_of_le (pow_lt2 hp.den hq.den) (Nat.pow_le_pow_right (by decide) (by decide))
theorem plusB {k_fraction : Nat} {p q : Rat} (hf : FraS C k_fraction) (hp : Sz 4000 p) (hq : Sz 4000 q) (h : Q (frQ (p + q)) S) : wpSs C P none (.cons (.ret (.call k_fraction (.cons (.bin .add true (.bin .mul true (.idx (.var 0) (.cst (.int 0))) (.idx (.var 1) (.cst (.int 1)))) (.bin .mul true (.idx (.var 1) (.cst (.int 0))) (.idx (.var 0) (.cst (.int 1))))) (.cons (.bin .mul true (.idx (.var 0) (.cst (.int 1))) (.idx (.var 1) (.cst (.int 1)))) .nil)))) .nil)
    (startD 2 [frQ p, frQ q]) S (retP Q E) := by
  unfold frQ at *
  walk_at "l3 wst"
  refine ⟨mul_of hp.1 hq.den (by decide) (by decide), mul_of hq.1 hp.den (by decide) (by decide), mul_of hp.den hq.den (by decide) (by decide), hf _ _ _ _ _ (Int.mul_ne_zero (den_ne p) (den_ne q)) (dd_lt hp hq) ?_⟩
  rw [add_is]
  exact ⟨S, le0, h⟩
theorem lessB {p q : Rat} (hp : Sz 4000 p) (hq : Sz 4000 q) (h : Q (.bl (decide (p < q))) S) : wpSs C P none (.cons (.ret (.cmp .lt (.bin .mul true (.idx (.var 0) (.cst (.int 0))) (.idx (.var 1) (.cst (.int 1)))) (.bin .mul true (.idx (.var 1) (.cst (.int 0))) (.idx (.var 0) (.cst (.int 1)))))) .nil)
    (startD 2 [frQ p, frQ q]) S (retP Q E) := by
  unfold frQ at *
  walk_at "l3 wst"
  refine ⟨mul_of hp.1 hq.den (by decide) (by decide), mul_of hq.1 hp.den (by decide) (by decide), S, le0, ?_⟩
  rw [decide_eq_decide.mpr (lt_is p q)]
  exact h

theorem low_loop {a b : Int} {x y : Option D} (ha : 0 ≤ a) (hb : 0 ≤ b) (h : Po.nx [x, y, some (.int (Int.gcd a b)), some (.int 0)] S) :
    ∃ m, whileW (wpE C P ex (.cmp .gt (.var 3) (.cst (.int 0)))) (wpSs C P ex (.cons (.par 2 3 (.var 3) (.bin .mod true (.var 2) (.var 3))) .nil)) m [x, y, some (.int a), some (.int b)] S Po := by
  have key : ∀ (k : Nat) (u v : Int), v.natAbs < k → 0 ≤ u → 0 ≤ v → Int.gcd u v = Int.gcd a b → ∃ m, whileW (wpE C P ex (.cmp .gt (.var 3) (.cst (.int 0)))) (wpSs C P ex (.cons (.par 2 3 (.var 3) (.bin .mod true (.var 2) (.var 3))) .nil)) m [x, y, some (.int u), some (.int v)] S Po := by
    intro k
    induction k with
    | zero => intro u v hy; omega
    | succ k ih =>
      intro u v hy hu hv hg
      by_cases h0 : v = 0
      · subst h0
        refine ⟨1, ?_⟩
        unfold whileW
        walk_at "l3 wxs"
        rw [Int.gcd_zero_right] at hg
        rw [← hg, show ((u.natAbs : Nat) : Int) = u by omega] at h
        exact h
      · obtain ⟨m, hm⟩ := ih v (u.fmod v) (by have := fmod_lt u v h0; omega) hv (Int.fmod_nonneg_of_pos u (by omega)) (by rw [gcd_fmod]; exact hg)
        refine ⟨m + 1, ?_⟩
        unfold whileW
        (wp_walk using show (0 < v) = True from eq_true (by omega))
        refine stepS rfl ?_
        (wp_walk using h0)
        refine nilS rfl ?_
        exact hm
  exact key _ a b (Nat.lt_succ_self _) ha hb rfl
theorem lowB {a b : Int} (hb : b ≠ 0) (hs : b.natAbs < 2 ^ 8900) (h : Q (frQ (a /. b)) S) : wpSs C P none (.cons (.par 2 3 (.blt .abs true (.cons (.var 0) .nil)) (.blt .abs true (.cons (.var 1) .nil))) (.cons (.whil (.cmp .gt (.var 3) (.cst (.int 0))) (.cons (.par 2 3 (.var 3) (.bin .mod true (.var 2) (.var 3))) .nil)) (.cons (.ifs (.cmp .lt (.var 1) (.cst (.int 0))) (.cons (.asg 2 (.neg (.var 2))) .nil) .nil) (.cons (.ret (.tup (.cons (.bin .fdiv true (.var 0) (.var 2)) (.cons (.bin .fdiv true (.var 1) (.var 2)) .nil)))) .nil))))
    (startD 4 [.int a, .int b]) S (retP Q E) := by
  have h1 := sg_ne (a := a) hb
  have h2 : (sg a b).natAbs < 2 ^ 8900 := by
    have hg := gcd_pos (a := a) hb
    have hd : (Int.gcd a b : Int) ∣ b := Int.gcd_dvd_right ..
    have := Int.natAbs_dvd_natAbs.mpr hd
    have := Nat.le_of_dvd (by omega) this
    unfold sg
    split <;> omega
  unfold frQ at h
  rw [← low_num hb, ← low_den hb] at h
  walk_at "l3 wst"
  walk_at "l3 wst"
  refine low_loop (by omega) (by omega) ?_
  rw [show Int.gcd ((a.natAbs : Nat) : Int) ((b.natAbs : Nat) : Int) = Int.gcd a b from rfl]
  unfold sg at h h1 h2
  walk_at "l3 wst"
  (((try walk_at "l3 wxs"); refine onB_d (fun h3 => ?_) (fun h3 => ?_) <;> (try walk_at "l3 wxs")))
  · rw [if_pos h3] at h h1 h2
    walk_at "l3 wst"
    walk_at "l3 wnl"
    walk_at "l3 wst"
    exact ⟨⟨h1, h2⟩, ⟨h1, h2⟩, S, le0, h⟩
  · rw [if_neg h3] at h h1 h2
    walk_at "l3 wnl"
    walk_at "l3 wst"
    exact ⟨⟨h1, h2⟩, ⟨h1, h2⟩, S, le0, h⟩
theorem cellB {ns : List Int} {k : Nat} (h : ∀ i : Int, Q (.int i) S) : wpSs C P none (.cons (.ret (.ite (.cmp .lt (.var 1) (.blt .len true (.cons (.var 0) .nil))) (.idx (.var 0) (.var 1)) (.cst (.int 0)))) .nil) (startD 2 [.scr (ns.map .int), .int k]) S (retP Q E) := by
  walk_at "l3 wst"
  refine onB_d (fun hk => ?_) fun _ => ?_
  · rw [List.length_map] at hk
    have hk : k < ns.length := by omega
    rw [List.getElem?_map, List.getElem?_eq_getElem hk]
    exact ⟨S, le0, h _⟩
  · exact ⟨S, le0, h _⟩

noncomputable def PotO (o : O) : Prop := ∃ x y : Int, o = .lst [.int x, .int y] ∧ 0 ≤ x ∧ 0 ≤ y ∧ y < 2147483648
theorem potB {i : Int} (h : ∀ p o, S p = none → PotO o → Q (.ref p) (S.set p o)) : wpSs C P none (.cons (.ret (.lst false (.cons (.blt .max true (.cons (.cst (.int 0)) (.cons (.bin .sub true (.var 0) (.bin .pow true (.cst (.int 10)) (.cst (.int 18)))) .nil))) (.cons (.bin .mod true (.bin .add true (.bin .mul true (.bin .mod true (.var 0) (.cst (.int 2147483629))) (.cst (.int 48271))) (.cst (.int 7919))) (.cst (.int 2147483647))) .nil)))) .nil) (startD 1 [.int i]) S (retP Q E) := by
  walk_at "l3 wst"
  have h1 := Int.fmod_nonneg_of_pos i (b := 2147483629) (by decide)
  have h2 := Int.fmod_lt_of_pos i (b := 2147483629) (by decide)
  have h3 := Int.fmod_nonneg_of_pos (i.fmod 2147483629 * 48271 + 7919) (b := 2147483647) (by decide)
  have h4 := Int.fmod_lt_of_pos (i.fmod 2147483629 * 48271 + 7919) (b := 2147483647) (by decide)
  refine ⟨by decide, by decide, mul_of (d := 40) (e := 40) (by omega) (by decide) (by decide) (by decide), by decide, fun p hp => ⟨_, le0, h p _ hp ⟨_, _, rfl, ?_, h3, by omega⟩⟩⟩
  omega

theorem drawB {p : Addr} {o : O} {m : Int} (hS : S p = some o) (ho : PotO o) (hm : 0 < m) (hm2 : m < 2 ^ 8000) (h : ∀ (r : Int) (o' : O), 0 ≤ r → r < m → PotO o' → Q (.int r) (S.set p o')) : wpSs C P none (.cons (.ifs (.cmp .gt (.idx (.var 0) (.cst (.int 0))) (.cst (.int 0))) (.cons (.asgt (.cons (.sub (.var 0) (.cst (.int 0))) (.cons (.nm 2) .nil)) (.blt .divmod true (.cons (.idx (.var 0) (.cst (.int 0))) (.cons (.var 1) .nil)))) (.cons (.ret (.var 2)) .nil)) .nil) (.cons (.sub (.var 0) (.cst (.int 1)) (.bin .mod true (.bin .add true (.bin .mul true (.idx (.var 0) (.cst (.int 1))) (.cst (.int 39373))) (.cst (.int 8191))) (.cst (.int 2147483587)))) (.cons (.ret (.bin .mod true (.bin .fdiv true (.bin .mod true (.bin .mul true (.idx (.var 0) (.cst (.int 1))) (.idx (.var 0) (.cst (.int 1)))) (.cst (.int 2147483543))) (.cst (.int 13))) (.var 1))) .nil)))
    (startD 3 [.ref p, .int m]) S (retP Q E) := by
  obtain ⟨x, y, rfl, hx, hy, hy2⟩ := ho
  have hm1 : m ≠ 0 := by omega
  refine stepS rfl ?_
  (wp_walk using idx_ref hS)
  refine onB_d (fun h0 => ?_) (fun h0 => ?_)
  · refine stepS rfl ?_
    (wp_walk using idx_ref hS, put_lst hS, ixN_0)
    refine ⟨⟨hm, by omega⟩, ?_⟩
    walk_at "l3 wst"
    exact ⟨_, le0, h _ _ (Int.emod_nonneg x hm1) (Int.emod_lt_of_pos x hm) ⟨_, _, rfl, Int.ediv_nonneg hx (by omega), hy, hy2⟩⟩
  · refine nilS rfl ?_
    refine stepS rfl ?_
    (wp_walk using idx_ref hS, put_lst hS, ixN_1)
    have h3 := Int.fmod_nonneg_of_pos (y * 39373 + 8191) (b := 2147483587) (by decide)
    have h4 := Int.fmod_lt_of_pos (y * 39373 + 8191) (b := 2147483587) (by decide)
    refine ⟨mul_of (d := 40) (e := 40) (by omega) (by decide) (by decide) (by decide), by decide, ?_⟩
    have hS2 : (S.set p (.lst [.int x, .int ((y * 39373 + 8191).fmod 2147483587)])) p = some (.lst [.int x, .int ((y * 39373 + 8191).fmod 2147483587)]) := Sto.same
    refine stepS rfl ?_
    (wp_walk using idx_ref hS2)
    refine ⟨mul_of (d := 40) (e := 40) (by omega) (by omega) (by decide) (by decide), by decide, by decide, hm1, _, le0, h _ _ (Int.fmod_nonneg_of_pos _ hm) (Int.fmod_lt_of_pos _ hm) ⟨_, _, rfl, hx, h3, by omega⟩⟩

theorem at_in {α : Type} {ds : List α} {i : Int} {A : α → Prop} (h0 : 0 ≤ i) (h1 : i < ds.length) (h : ∀ d ∈ ds, A d) : onO (L2.atI ds i) A := by
  obtain ⟨k, rfl⟩ := Int.eq_ofNat_of_zero_le h0
  have hk : k < ds.length := by omega
  rw [atI_nat, List.getElem?_eq_getElem hk]
  exact h _ (List.getElem_mem hk)
theorem frQ_pair {a b : Int} (hb : 0 < b) (hg : Int.gcd a b = 1) : D.tup [.int a, .int b] = frQ (a /. b) := by
  have h1 := low_num (a := a) (b := b) (by omega)
  have h2 := low_den (a := a) (b := b) (by omega)
  unfold sg at h1 h2
  rw [if_neg (by omega), hg] at h1 h2
  unfold frQ
  rw [← h1, ← h2]
  simp

theorem for_map {α : Type} {tg : Tg} {b : WSb} {g : Sto → Prop} (f : α → D) (V : List α → Fr → Sto → Prop) (hg : ∀ r fr S, V r fr S → g S)
    (turn : ∀ x r fr S (K : Fr → Sto → Prop), V (x :: r) fr S → (∀ fr' S', V r fr' S' → K fr' S') → ∃ fr2, bindG tg (f x) fr = some fr2 ∧ b fr2 S { nx := K, rt := Po.rt, bk := Po.nx, ct := K, xc := Po.xc })
    (fin : ∀ fr S, V [] fr S → Po.nx fr S) : ∀ (xs : List α) (fr : Fr) (S : Sto), V xs fr S → forW tg b g (xs.map f) fr S Po
  | [], fr, S, h => by
    rw [List.map_nil]
    unfold forW
    exact ⟨hg _ _ _ h, fin fr S h⟩
  | x :: xs, fr, S, h => by
    rw [List.map_cons]
    unfold forW
    refine ⟨hg _ _ _ h, ?_⟩
    obtain ⟨fr2, e, k⟩ := turn x xs fr S (fun fr' S' => forW tg b g (xs.map f) fr' S' Po) h fun fr' S' v => for_map f V hg turn fin xs fr' S' v
    rw [e]
    exact k

theorem comp_map {α : Type} {tg : Tg} {own : List Nat} {e : WEx} {g : Sto → Prop} {fr : Fr} {K0 : PoL} (f : α → D) (V : List α → List D → Sto → Prop) (hg : ∀ r acc S, V r acc S → g S)
    (turn : ∀ x r acc S, V (x :: r) acc S → acc.length < 16000000 ∧ ∀ K : PoE, (∀ y S', V r (acc ++ [y]) S' → K y S') → ∃ fr2, bindG tg (f x) (wipeD fr own) = some fr2 ∧ e fr2 S K noX)
    (fin : ∀ acc S, V [] acc S → K0 acc S) : ∀ (xs : List α) (acc : List D) (S : Sto), V xs acc S → compW tg own (wpTs C P ex .nil) e g (xs.map f) acc fr S K0
  | [], acc, S, h => by
    rw [List.map_nil]
    unfold compW
    exact ⟨hg _ _ _ h, fin acc S h⟩
  | x :: xs, acc, S, h => by
    rw [List.map_cons]
    unfold compW
    refine ⟨hg _ _ _ h, ?_⟩
    obtain ⟨hl, t⟩ := turn x xs acc S h
    obtain ⟨fr2, e2, k⟩ := t (fun y S4 => acc.length < 16000000 ∧ compW tg own (wpTs C P ex .nil) e g (xs.map f) (acc ++ [y]) fr S4 K0) fun y S' v => ⟨hl, comp_map f V hg turn fin xs _ S' v⟩
    rw [e2]
    dsimp only
    rw [r_ts0]
    exact k

noncomputable abbrev DrwS (C : CallF) (k : Nat) : Prop := ∀ (p : Addr) (o : O) (m : Int) (S : Sto) (Q : PoE) (E : PoX), S p = some o → PotO o → 0 < m → m < 2 ^ 8000 → (∀ (r : Int) (o' : O), 0 ≤ r → r < m → PotO o' → Q (.int r) (S.set p o')) → C k [.ref p, .int m] none S Q E
theorem plainNs_mem {k : Nat} {ds : List D} : plainNs k ds = true ↔ ∀ d ∈ ds, plainN k d = true := by
  induction ds with
  | nil => simp [plainNs]
  | cons d ds ih => simp [plainNs, ih]
end
end L4

namespace L4
open PySem PySem.Spec PyProof.Rows L2
local macro_rules | `(tactic| wp_walk using $ls:term,*) => `(tactic| simp only [r_var, r_cst, r_fnv, r_clv, r_tyv, r_gc, r_bin, r_neg, r_nt, r_cmp, r_conj, r_disj, r_ite, r_tup, r_lst, r_dsp0, r_dsp, r_idx, r_fld, r_call, r_callk, r_callv, r_make, r_mcl, r_blt, r_comp, r_fst, r_frz, r_met, r_rvs, r_slc00, r_slc10, r_slc01, r_slc11, r_chain, r_conj1, r_conj2, r_disj1, r_disj2, r_ts0, r_ts1, r_es0, r_es1, r_asg, r_asgc, r_par, r_asgt, r_sub, r_fset, r_exp, r_ret, r_retn, r_ifs, r_fors, r_whil, r_rais, r_pass, r_frzs, r_tryo, r_anm, r_asub, r_as0, r_as1, r_rng1, r_seq, r_txt, r_rev, onB_t, onB_f, onB_n, onI_i, onS_s, onT_t, onR_r, onV_s, onF_f, onO_s, onG_s, sv_t, sv_l, wk_t, wk_l, wk_s, newL_t, newL_f, bin_add, bin_cat, bin_catT, bin_catL, bin_sub, bin_mul, bin_repL, bin_mod, bin_fdiv, bin_pow, c_eq_i, c_eq_s, c_eq_b, c_ne_i, c_ne_s, c_ne_b, c_lt, c_lt_s, c_le, c_gt, c_ge, c_is, c_isnot, idx_tup, idx_lst, idx_scr, atI_0, atI_1, atI_2, atI_3, atI_4, atI_5, atI_6, atI_nat, b_len_tup, b_len_lst, b_len_scr, b_len_str, b_len_dct, b_abs, b_int, b_int_bl, b_max, b_min, b_divmod, b_str_i, b_str_s, b_all, b_any, b_sum, b_list_l, b_list_t, b_tuple_l, wpF, bindG, bindGs, ITs.len, IEs.len, pick, startD, L4.Po.behind, id_eq, Sto.same, Sto.set_set, List.map_cons, List.map_nil, List.length_cons, List.length_nil, List.getElem?_cons_zero, List.getElem?_cons_succ, List.set_cons_zero, List.set_cons_succ, List.replicate, List.cons_append, List.nil_append, List.append_nil, List.filterMap_cons, List.filterMap_nil, Nat.reduceAdd, Nat.reduceSub, Nat.reduceLeDiff, Nat.reduceEqDiff, Int.reduceToNat, Int.reducePow, Int.reduceMul, Int.reduceSub, Int.reduceAdd, Int.reduceNeg, Int.reduceLE, Int.reduceLT, true_and, and_true, decide_true, decide_false, Bool.not_true, Bool.not_false, reduceCtorEq, ne_eq, not_false_eq_true, r_oeq, r_osp, r_cllx, r_ocmp, r_enm, r_zip, zk_tt, zk_ll, r_rng2, r_dct, dk_d, dk_d2, wk_map, c_isb, c_isnotb, oe_int, oe_str, oe_bl, oe_non, oe_tup, oe_lst, oe_ins, os_rep, os_len, eqOk_non, eqOk_int, eqOk_bl, eqOk_str, eqOk_tup, eqOk_lst, eqOk_ins, sl_tup, sl_str, sl_lst, iv_i, fld_i, b_isi, cl_int, cl_bool, cl_str, cl_list, cl_tuple, cl_dict, cl_lt, is_non, is_int, is_bl, is_str, is_tup, is_lst, is_dct, isT, isSub, List.any_cons, List.any_nil, Bool.or_false, Bool.false_or, Bool.or_true, Bool.true_or, Bool.and_true, Bool.true_and, Bool.and_false, Bool.false_and, String.reduceBEq, wkV_g, wkV_ds, wkV_bk, idx_str, m_join, ty_str, wipeD, List.foldl_cons, List.foldl_nil, ix_q0, ix_q1, isNo_non, isNo_int, isNo_str, isNo_bl, isNo_tup, isNo_lst, isNo_ref, isNo_ins, isNo_dct, isNo_frQ, bin_repT, cutL_to, cutL_from, cutL_both, cutN_to, cutN_from, cutN_both, List.take_succ_cons, List.take_zero, List.drop_succ_cons, List.drop_zero, List.take_nil, List.drop_nil, ky_nil, ky_str, ky_tup, ky_lst, ky_non, ky_ins, ky_1, ky_3, ky_q, Bool.true_beq, Bool.false_beq, bin_repS, r_frzo, $[$ls:term],*])
local macro_rules | `(tactic| walk_at "l3 wxs") => `(tactic| simp only [r_var, r_cst, r_fnv, r_clv, r_tyv, r_gc, r_bin, r_neg, r_nt, r_cmp, r_conj, r_disj, r_ite, r_tup, r_lst, r_dsp0, r_dsp, r_idx, r_fld, r_call, r_callk, r_callv, r_make, r_mcl, r_blt, r_comp, r_fst, r_frz, r_met, r_rvs, r_slc00, r_slc10, r_slc01, r_slc11, r_chain, r_conj1, r_conj2, r_disj1, r_disj2, r_ts0, r_ts1, r_es0, r_es1, r_asg, r_asgc, r_par, r_asgt, r_sub, r_fset, r_exp, r_ret, r_retn, r_ifs, r_fors, r_whil, r_rais, r_pass, r_frzs, r_tryo, r_anm, r_asub, r_as0, r_as1, r_rng1, r_seq, r_txt, r_rev, onB_t, onB_f, onB_n, onI_i, onS_s, onT_t, onR_r, onV_s, onF_f, onO_s, onG_s, sv_t, sv_l, wk_t, wk_l, wk_s, newL_t, newL_f, bin_add, bin_cat, bin_catT, bin_catL, bin_sub, bin_mul, bin_repL, bin_mod, bin_fdiv, bin_pow, c_eq_i, c_eq_s, c_eq_b, c_ne_i, c_ne_s, c_ne_b, c_lt, c_lt_s, c_le, c_gt, c_ge, c_is, c_isnot, idx_tup, idx_lst, idx_scr, atI_0, atI_1, atI_2, atI_3, atI_4, atI_5, atI_6, atI_nat, b_len_tup, b_len_lst, b_len_scr, b_len_str, b_len_dct, b_abs, b_int, b_int_bl, b_max, b_min, b_divmod, b_str_i, b_str_s, b_all, b_any, b_sum, b_list_l, b_list_t, b_tuple_l, wpF, bindG, bindGs, ITs.len, IEs.len, pick, startD, L4.Po.behind, id_eq, Sto.same, Sto.set_set, List.map_cons, List.map_nil, List.length_cons, List.length_nil, List.getElem?_cons_zero, List.getElem?_cons_succ, List.set_cons_zero, List.set_cons_succ, List.replicate, List.cons_append, List.nil_append, List.append_nil, List.filterMap_cons, List.filterMap_nil, Nat.reduceAdd, Nat.reduceSub, Nat.reduceLeDiff, Nat.reduceEqDiff, Int.reduceToNat, Int.reducePow, Int.reduceMul, Int.reduceSub, Int.reduceAdd, Int.reduceNeg, Int.reduceLE, Int.reduceLT, true_and, and_true, decide_true, decide_false, Bool.not_true, Bool.not_false, reduceCtorEq, ne_eq, not_false_eq_true, r_oeq, r_osp, r_cllx, r_ocmp, r_enm, r_zip, zk_tt, zk_ll, r_rng2, r_dct, dk_d, dk_d2, wk_map, c_isb, c_isnotb, oe_int, oe_str, oe_bl, oe_non, oe_tup, oe_lst, oe_ins, os_rep, os_len, eqOk_non, eqOk_int, eqOk_bl, eqOk_str, eqOk_tup, eqOk_lst, eqOk_ins, sl_tup, sl_str, sl_lst, iv_i, fld_i, b_isi, cl_int, cl_bool, cl_str, cl_list, cl_tuple, cl_dict, cl_lt, is_non, is_int, is_bl, is_str, is_tup, is_lst, is_dct, isT, isSub, List.any_cons, List.any_nil, Bool.or_false, Bool.false_or, Bool.or_true, Bool.true_or, Bool.and_true, Bool.true_and, Bool.and_false, Bool.false_and, String.reduceBEq, wkV_g, wkV_ds, wkV_bk, idx_str, m_join, ty_str, wipeD, List.foldl_cons, List.foldl_nil, ix_q0, ix_q1, isNo_non, isNo_int, isNo_str, isNo_bl, isNo_tup, isNo_lst, isNo_ref, isNo_ins, isNo_dct, isNo_frQ, bin_repT, cutL_to, cutL_from, cutL_both, cutN_to, cutN_from, cutN_both, List.take_succ_cons, List.take_zero, List.drop_succ_cons, List.drop_zero, List.take_nil, List.drop_nil, ky_nil, ky_str, ky_tup, ky_lst, ky_non, ky_ins, ky_1, ky_3, ky_q, Bool.true_beq, Bool.false_beq, bin_repS, r_frzo])
local macro_rules | `(tactic| walk_at "l3 wst") => `(tactic| (refine stepS rfl ?_; walk_at "l3 wxs"))
local macro_rules | `(tactic| walk_at "l3 wnl") => `(tactic| (refine nilS rfl ?_; (try walk_at "l3 wxs")))

structure Tell (p : PyData) (B d : Nat) : Prop where
  sh : p.showable = true
  dp : p.depth ≤ d
  ln : p.shown.length ≤ B
theorem Tell.mono {p : PyData} {B d B' d' : Nat} (t : Tell p B d) (hB : B ≤ B') (hd : d ≤ d') : Tell p B' d' := ⟨t.sh, Nat.le_trans t.dp hd, Nat.le_trans t.ln hB⟩
theorem len_int {i : Int} (h : i.natAbs < 2 ^ 1900) : (toString i : Str).length ≤ 1921 := int_text_len_1921 (small_log h)
theorem tell_int {i : Int} (h : i.natAbs < 2 ^ 1900) : Tell (.int i) 1921 1 := by
  refine ⟨by unfold PyData.showable; exact decide_eq_true (small_log h), by unfold PyData.depth; omega, by unfold PyData.shown; exact len_int h⟩
theorem tell_bool {b : Bool} : Tell (.bool b) 5 1 := by
  refine ⟨by unfold PyData.showable; rfl, by unfold PyData.depth; omega, by unfold PyData.shown; cases b <;> decide⟩
theorem tell_none : Tell .none 4 1 := by
  refine ⟨by unfold PyData.showable; rfl, by unfold PyData.depth; omega, by unfold PyData.shown; decide⟩
theorem tell_str {x : Str} : Tell (.str x) (reprText x).length 1 := by
  refine ⟨by unfold PyData.showable; rfl, by unfold PyData.depth; omega, by unfold PyData.shown; exact Nat.le_refl _⟩
theorem tell_str_le {x : Str} (hx : ∀ c ∈ x.cps.toList, c < 16 ^ 8) : Tell (.str x) (10 * x.length + 2) 1 := tell_str.mono (PySem.StrLaws.reprText_len x hx) (Nat.le_refl _)
theorem all_show : ∀ {xs : List PyData} {B d : Nat}, (∀ x ∈ xs, Tell x B d) → PyData.showableAll xs = true ∧ PyData.depthAll xs ≤ d ∧ piled (PyData.shownAll xs) ≤ xs.length * (B + 2) ∧ (PyData.shownAll xs).length = xs.length
  | [], B, d, h => by
    unfold PyData.showableAll PyData.depthAll PyData.shownAll
    exact ⟨rfl, Nat.zero_le _, Nat.zero_le _, rfl⟩
  | x :: xs, B, d, h => by
    obtain ⟨h1, h3, h4, h5⟩ := all_show (xs := xs) fun y hy => h y (List.mem_cons_of_mem _ hy)
    have t := h x (List.mem_cons_self ..)
    unfold PyData.showableAll PyData.depthAll PyData.shownAll
    refine ⟨by rw [t.sh, h1]; rfl, ?_, ?_, by rw [List.length_cons, List.length_cons, h5]⟩
    · have := t.dp
      omega
    · rw [piled_cons, List.length_cons, Nat.succ_mul]
      have := t.ln
      omega
theorem text_from : ∀ (ts : List Str) (k : Nat) (acc : Str), (textFrom k acc ts).length ≤ acc.length + piled ts
  | [], k, acc => Nat.le_refl _
  | t :: ts, k, acc => by
    refine Nat.le_trans (text_from ts (k + 1) _) ?_
    rw [strLen_append, strLen_append, piled_cons]
    have : (((if k > 0 then ", " else "" : String) : Str)).length ≤ 2 := by split <;> decide
    omega
theorem list_text (ts : List Str) : (listText ts).length ≤ 2 + piled ts := by
  unfold listText
  rw [strLen_append]
  have := text_from ts 0 "["
  have e1 : ((("[" : String) : Str)).length = 1 := rfl
  have e2 : ((("]" : String) : Str)).length = 1 := rfl
  omega
theorem tuple_text (ts : List Str) : (tupleText ts).length ≤ 3 + piled ts := by
  unfold tupleText
  rw [strLen_append, strLen_append]
  have e1 : ((("(" : String) : Str)).length = 1 := rfl
  have e3 : (((if ts.length == 1 then ",)" else ")" : String) : Str)).length ≤ 2 := by split <;> decide
  by_cases h : ts = []
  · subst h
    have : (Str.join ", " []).length = 0 := rfl
    omega
  · have := join_length_add ts h
    omega
theorem tell_list {xs : List PyData} {B d : Nat} (h : ∀ x ∈ xs, Tell x B d) : Tell (.list xs) (3 + xs.length * (B + 2)) (d + 1) := by
  obtain ⟨h1, h3, h4, h5⟩ := all_show h
  refine ⟨by unfold PyData.showable; exact h1, by unfold PyData.depth; omega, ?_⟩
  unfold PyData.shown
  have := list_text (PyData.shownAll xs)
  omega
theorem tell_tup {xs : List PyData} {B d : Nat} (h : ∀ x ∈ xs, Tell x B d) : Tell (.tuple xs) (3 + xs.length * (B + 2)) (d + 1) := by
  obtain ⟨h1, h3, h4, h5⟩ := all_show h
  refine ⟨by unfold PyData.showable; exact h1, by unfold PyData.depth; omega, ?_⟩
  unfold PyData.shown
  have := tuple_text (PyData.shownAll xs)
  omega

noncomputable def Sh (x : D) (B d : Nat) : Prop := ∃ p, pyD x = some p ∧ Tell p B d
theorem Sh.mono {x : D} {B d B' d' : Nat} (h : Sh x B d) (h1 : B ≤ B') (h2 : d ≤ d') : Sh x B' d' := by
  obtain ⟨p, e, t⟩ := h
  exact ⟨p, e, t.mono h1 h2⟩
theorem sh_int {i : Int} (h : i.natAbs < 2 ^ 1900) : Sh (.int i) 1921 1 := ⟨_, rfl, tell_int h⟩
theorem sh_bl {b : Bool} : Sh (.bl b) 5 1 := ⟨_, rfl, tell_bool⟩
theorem sh_non : Sh .non 4 1 := ⟨_, rfl, tell_none⟩
theorem sh_str {x : Str} (hx : ∀ c ∈ x.cps.toList, c < 16 ^ 8) : Sh (.str x) (10 * x.length + 2) 1 := ⟨_, rfl, tell_str_le hx⟩
theorem pyDs_all {B d : Nat} : ∀ {xs : List D}, (∀ x ∈ xs, Sh x B d) → ∃ ps, pyDs xs = some ps ∧ ps.length = xs.length ∧ ∀ p ∈ ps, Tell p B d
  | [], _ => ⟨[], rfl, rfl, fun _ h => by cases h⟩
  | x :: xs, h => by
    obtain ⟨p, e, t⟩ := h x (List.mem_cons_self ..)
    obtain ⟨ps, es, hl, ts⟩ := pyDs_all (xs := xs) fun y hy => h y (List.mem_cons_of_mem _ hy)
    refine ⟨p :: ps, by unfold pyDs; rw [e, es], by simp [hl], fun q hq => ?_⟩
    rcases List.mem_cons.mp hq with rfl | hq
    · exact t
    · exact ts q hq
theorem sh_tup {xs : List D} {B d : Nat} (h : ∀ x ∈ xs, Sh x B d) : Sh (.tup xs) (3 + xs.length * (B + 2)) (d + 1) := by
  obtain ⟨ps, e, hl, t⟩ := pyDs_all h
  exact ⟨.tuple ps, by unfold pyD; rw [e], by rw [← hl]; exact tell_tup t⟩
theorem sh_lst {xs : List D} {B d : Nat} (h : ∀ x ∈ xs, Sh x B d) : Sh (.lst xs) (3 + xs.length * (B + 2)) (d + 1) := by
  obtain ⟨ps, e, hl, t⟩ := pyDs_all h
  exact ⟨.list ps, by unfold pyD; rw [e], by rw [← hl]; exact tell_list t⟩
section
variable {S : Sto} {Q : PoE} {P : Pg} {fz : Bool}
end
section
variable {C : CallF} {P : Pg} {S : Sto} {Q : PoE} {E : PoX}
end
end L4

namespace L4
open PySem
local macro_rules | `(tactic| wp_walk using $ls:term,*) => `(tactic| simp only [r_var, r_cst, r_fnv, r_clv, r_tyv, r_gc, r_bin, r_neg, r_nt, r_cmp, r_conj, r_disj, r_ite, r_tup, r_lst, r_dsp0, r_dsp, r_idx, r_fld, r_call, r_callk, r_callv, r_make, r_mcl, r_blt, r_comp, r_fst, r_frz, r_met, r_rvs, r_slc00, r_slc10, r_slc01, r_slc11, r_chain, r_conj1, r_conj2, r_disj1, r_disj2, r_ts0, r_ts1, r_es0, r_es1, r_asg, r_asgc, r_par, r_asgt, r_sub, r_fset, r_exp, r_ret, r_retn, r_ifs, r_fors, r_whil, r_rais, r_pass, r_frzs, r_tryo, r_anm, r_asub, r_as0, r_as1, r_rng1, r_seq, r_txt, r_rev, onB_t, onB_f, onB_n, onI_i, onS_s, onT_t, onR_r, onV_s, onF_f, onO_s, onG_s, sv_t, sv_l, wk_t, wk_l, wk_s, newL_t, newL_f, bin_add, bin_cat, bin_catT, bin_catL, bin_sub, bin_mul, bin_repL, bin_mod, bin_fdiv, bin_pow, c_eq_i, c_eq_s, c_eq_b, c_ne_i, c_ne_s, c_ne_b, c_lt, c_lt_s, c_le, c_gt, c_ge, c_is, c_isnot, idx_tup, idx_lst, idx_scr, atI_0, atI_1, atI_2, atI_3, atI_4, atI_5, atI_6, atI_nat, b_len_tup, b_len_lst, b_len_scr, b_len_str, b_len_dct, b_abs, b_int, b_int_bl, b_max, b_min, b_divmod, b_str_i, b_str_s, b_all, b_any, b_sum, b_list_l, b_list_t, b_tuple_l, wpF, bindG, bindGs, ITs.len, IEs.len, pick, startD, L4.Po.behind, id_eq, Sto.same, Sto.set_set, List.map_cons, List.map_nil, List.length_cons, List.length_nil, List.getElem?_cons_zero, List.getElem?_cons_succ, List.set_cons_zero, List.set_cons_succ, List.replicate, List.cons_append, List.nil_append, List.append_nil, List.filterMap_cons, List.filterMap_nil, Nat.reduceAdd, Nat.reduceSub, Nat.reduceLeDiff, Nat.reduceEqDiff, Int.reduceToNat, Int.reducePow, Int.reduceMul, Int.reduceSub, Int.reduceAdd, Int.reduceNeg, Int.reduceLE, Int.reduceLT, true_and, and_true, decide_true, decide_false, Bool.not_true, Bool.not_false, reduceCtorEq, ne_eq, not_false_eq_true, r_oeq, r_osp, r_cllx, r_ocmp, r_enm, r_zip, zk_tt, zk_ll, r_rng2, r_dct, dk_d, dk_d2, wk_map, c_isb, c_isnotb, oe_int, oe_str, oe_bl, oe_non, oe_tup, oe_lst, oe_ins, os_rep, os_len, eqOk_non, eqOk_int, eqOk_bl, eqOk_str, eqOk_tup, eqOk_lst, eqOk_ins, sl_tup, sl_str, sl_lst, iv_i, fld_i, b_isi, cl_int, cl_bool, cl_str, cl_list, cl_tuple, cl_dict, cl_lt, is_non, is_int, is_bl, is_str, is_tup, is_lst, is_dct, isT, isSub, List.any_cons, List.any_nil, Bool.or_false, Bool.false_or, Bool.or_true, Bool.true_or, Bool.and_true, Bool.true_and, Bool.and_false, Bool.false_and, String.reduceBEq, wkV_g, wkV_ds, wkV_bk, idx_str, m_join, ty_str, wipeD, List.foldl_cons, List.foldl_nil, ix_q0, ix_q1, isNo_non, isNo_int, isNo_str, isNo_bl, isNo_tup, isNo_lst, isNo_ref, isNo_ins, isNo_dct, isNo_frQ, bin_repT, cutL_to, cutL_from, cutL_both, cutN_to, cutN_from, cutN_both, List.take_succ_cons, List.take_zero, List.drop_succ_cons, List.drop_zero, List.take_nil, List.drop_nil, ky_nil, ky_str, ky_tup, ky_lst, ky_non, ky_ins, ky_1, ky_3, ky_q, Bool.true_beq, Bool.false_beq, bin_repS, r_frzo, $[$ls:term],*])
local macro_rules | `(tactic| walk_at "l3 wxs") => `(tactic| simp only [r_var, r_cst, r_fnv, r_clv, r_tyv, r_gc, r_bin, r_neg, r_nt, r_cmp, r_conj, r_disj, r_ite, r_tup, r_lst, r_dsp0, r_dsp, r_idx, r_fld, r_call, r_callk, r_callv, r_make, r_mcl, r_blt, r_comp, r_fst, r_frz, r_met, r_rvs, r_slc00, r_slc10, r_slc01, r_slc11, r_chain, r_conj1, r_conj2, r_disj1, r_disj2, r_ts0, r_ts1, r_es0, r_es1, r_asg, r_asgc, r_par, r_asgt, r_sub, r_fset, r_exp, r_ret, r_retn, r_ifs, r_fors, r_whil, r_rais, r_pass, r_frzs, r_tryo, r_anm, r_asub, r_as0, r_as1, r_rng1, r_seq, r_txt, r_rev, onB_t, onB_f, onB_n, onI_i, onS_s, onT_t, onR_r, onV_s, onF_f, onO_s, onG_s, sv_t, sv_l, wk_t, wk_l, wk_s, newL_t, newL_f, bin_add, bin_cat, bin_catT, bin_catL, bin_sub, bin_mul, bin_repL, bin_mod, bin_fdiv, bin_pow, c_eq_i, c_eq_s, c_eq_b, c_ne_i, c_ne_s, c_ne_b, c_lt, c_lt_s, c_le, c_gt, c_ge, c_is, c_isnot, idx_tup, idx_lst, idx_scr, atI_0, atI_1, atI_2, atI_3, atI_4, atI_5, atI_6, atI_nat, b_len_tup, b_len_lst, b_len_scr, b_len_str, b_len_dct, b_abs, b_int, b_int_bl, b_max, b_min, b_divmod, b_str_i, b_str_s, b_all, b_any, b_sum, b_list_l, b_list_t, b_tuple_l, wpF, bindG, bindGs, ITs.len, IEs.len, pick, startD, L4.Po.behind, id_eq, Sto.same, Sto.set_set, List.map_cons, List.map_nil, List.length_cons, List.length_nil, List.getElem?_cons_zero, List.getElem?_cons_succ, List.set_cons_zero, List.set_cons_succ, List.replicate, List.cons_append, List.nil_append, List.append_nil, List.filterMap_cons, List.filterMap_nil, Nat.reduceAdd, Nat.reduceSub, Nat.reduceLeDiff, Nat.reduceEqDiff, Int.reduceToNat, Int.reducePow, Int.reduceMul, Int.reduceSub, Int.reduceAdd, Int.reduceNeg, Int.reduceLE, Int.reduceLT, true_and, and_true, decide_true, decide_false, Bool.not_true, Bool.not_false, reduceCtorEq, ne_eq, not_false_eq_true, r_oeq, r_osp, r_cllx, r_ocmp, r_enm, r_zip, zk_tt, zk_ll, r_rng2, r_dct, dk_d, dk_d2, wk_map, c_isb, c_isnotb, oe_int, oe_str, oe_bl, oe_non, oe_tup, oe_lst, oe_ins, os_rep, os_len, eqOk_non, eqOk_int, eqOk_bl, eqOk_str, eqOk_tup, eqOk_lst, eqOk_ins, sl_tup, sl_str, sl_lst, iv_i, fld_i, b_isi, cl_int, cl_bool, cl_str, cl_list, cl_tuple, cl_dict, cl_lt, is_non, is_int, is_bl, is_str, is_tup, is_lst, is_dct, isT, isSub, List.any_cons, List.any_nil, Bool.or_false, Bool.false_or, Bool.or_true, Bool.true_or, Bool.and_true, Bool.true_and, Bool.and_false, Bool.false_and, String.reduceBEq, wkV_g, wkV_ds, wkV_bk, idx_str, m_join, ty_str, wipeD, List.foldl_cons, List.foldl_nil, ix_q0, ix_q1, isNo_non, isNo_int, isNo_str, isNo_bl, isNo_tup, isNo_lst, isNo_ref, isNo_ins, isNo_dct, isNo_frQ, bin_repT, cutL_to, cutL_from, cutL_both, cutN_to, cutN_from, cutN_both, List.take_succ_cons, List.take_zero, List.drop_succ_cons, List.drop_zero, List.take_nil, List.drop_nil, ky_nil, ky_str, ky_tup, ky_lst, ky_non, ky_ins, ky_1, ky_3, ky_q, Bool.true_beq, Bool.false_beq, bin_repS, r_frzo])
local macro_rules | `(tactic| walk_at "l3 wst") => `(tactic| (refine stepS rfl ?_; walk_at "l3 wxs"))
local macro_rules | `(tactic| walk_at "l3 wnl") => `(tactic| (refine nilS rfl ?_; (try walk_at "l3 wxs")))
open scoped Rat

section
variable {C : CallF} {P : Pg} {ex : Option Exc} {S : Sto} {Q : PoE} {E : PoX} {Po : L4.Po}

theorem comp_filt {α : Type} {tg : Tg} {own : List Nat} {ts e : WEx} {g : Sto → Prop} {fr : Fr} {K0 : PoL} (f : α → D) (V : List α → List D → Sto → Prop) (hg : ∀ r acc S, V r acc S → g S)
    (turn : ∀ x r acc S (K : List D → Sto → Prop), V (x :: r) acc S → (∀ acc' S', V r acc' S' → K acc' S') → ∃ fr2, bindG tg (f x) (wipeD fr own) = some fr2 ∧ ts fr2 S (fun y S3 => onB y (e fr2 S3 (fun z S4 => acc.length < 16000000 ∧ K (acc ++ [z]) S4) noX) (K acc S3)) noX)
    (fin : ∀ acc S, V [] acc S → K0 acc S) : ∀ (xs : List α) (acc : List D) (S : Sto), V xs acc S → compW tg own ts e g (xs.map f) acc fr S K0
  | [], acc, S, h => by
    rw [List.map_nil]
    unfold compW
    exact ⟨hg _ _ _ h, fin acc S h⟩
  | x :: xs, acc, S, h => by
    rw [List.map_cons]
    unfold compW
    refine ⟨hg _ _ _ h, ?_⟩
    obtain ⟨fr2, e2, k⟩ := turn x xs acc S (fun acc' S' => compW tg own ts e g (xs.map f) acc' fr S' K0) h fun acc' S' v => comp_filt f V hg turn fin xs acc' S' v
    rw [e2]
    exact k
theorem rngD_is (n : Nat) : rngD 0 n = (List.range n).map fun (k : Nat) => D.int (k : Int) := by
  unfold rngD
  refine List.map_congr_left fun k _ => ?_
  rw [Int.zero_add]
theorem range_drop {n k : Nat} (h : k < n) : (List.range n).drop k = k :: (List.range n).drop (k + 1) := by
  rw [List.drop_eq_getElem_cons (by simpa using h), List.getElem_range]

theorem comp_rng {tg : Tg} {own : List Nat} {e : WEx} {fr : Fr} {K0 : PoL} {n : Nat} (V : Nat → List D → Sto → Prop)
    (turn : ∀ k acc S, k < n → V k acc S → acc.length < 16000000 ∧ ∀ K : PoE, (∀ y S', V (k + 1) (acc ++ [y]) S' → K y S') → ∃ fr2, bindG tg (.int (k : Int)) (wipeD fr own) = some fr2 ∧ e fr2 S K noX)
    (fin : ∀ acc S, V n acc S → K0 acc S) (h0 : V 0 [] S) : compW tg own (wpTs C P ex .nil) e (wkV (rngS 0 n)).g (rngS 0 n) [] fr S K0 := by
  rw [rngS_is, rngD_is]
  refine L4.comp_map (α := Nat) (fun k => D.int (k : Int)) (fun rr acc S => ∃ k, rr = (List.range n).drop k ∧ k ≤ n ∧ V k acc S) (fun _ _ _ _ => trivial) (fun x r acc S h => ?_) (fun acc S h => ?_) _ _ _ ⟨0, rfl, Nat.zero_le _, h0⟩
  · obtain ⟨k, hk, hn, v⟩ := h
    have hlt : k < n := by
      refine Classical.byContradiction fun hh => ?_
      rw [List.drop_eq_nil_of_le (by simp; omega)] at hk
      cases hk
    rw [range_drop hlt] at hk
    injection hk with hk1 hk2
    subst hk1 hk2
    obtain ⟨h1, h2⟩ := turn x acc S hlt v
    exact ⟨h1, fun K hK => h2 K fun y S' v' => hK y S' ⟨x + 1, rfl, hlt, v'⟩⟩
  · obtain ⟨k, hk, hn, v⟩ := h
    have e : k = n := by
      have := congrArg List.length hk
      simp at this
      omega
    subst e
    exact fin _ _ v

theorem for_rng {tg : Tg} {b : WSb} {n : Nat} (V : Nat → Fr → Sto → Prop)
    (turn : ∀ k fr S (K : Fr → Sto → Prop), k < n → V k fr S → (∀ fr' S', V (k + 1) fr' S' → K fr' S') → ∃ fr2, bindG tg (.int (k : Int)) fr = some fr2 ∧ b fr2 S { nx := K, rt := Po.rt, bk := Po.nx, ct := K, xc := Po.xc })
    (fin : ∀ fr S, V n fr S → Po.nx fr S) {fr : Fr} (h0 : V 0 fr S) : forW tg b (wkV (rngS 0 n)).g (rngS 0 n) fr S Po := by
  rw [rngS_is, rngD_is]
  refine for_map (α := Nat) (fun k => D.int (k : Int)) (fun rr fr S => ∃ k, rr = (List.range n).drop k ∧ k ≤ n ∧ V k fr S) (fun _ _ _ _ => trivial) (fun x r fr S K h hK => ?_) (fun fr S h => ?_) _ _ _ ⟨0, rfl, Nat.zero_le _, h0⟩
  · obtain ⟨k, hk, hn, v⟩ := h
    have hlt : k < n := by
      refine Classical.byContradiction fun hh => ?_
      rw [List.drop_eq_nil_of_le (by simp; omega)] at hk
      cases hk
    rw [range_drop hlt] at hk
    injection hk with hk1 hk2
    subst hk1 hk2
    exact turn x fr S K hlt v fun fr' S' v' => hK _ _ ⟨x + 1, rfl, hlt, v'⟩
  · obtain ⟨k, hk, hn, v⟩ := h
    have e : k = n := by
      have := congrArg List.length hk
      simp at this
      omega
    subst e
    exact fin _ _ v
noncomputable def ltr (c : Nat) : Prop := 97 ≤ c ∧ c ≤ 122
noncomputable instance (c : Nat) : Decidable (ltr c) := by unfold ltr; infer_instance

noncomputable def NmOk (t : Str) : Prop := (1 ≤ (TL.tl t).length ∧ (TL.tl t).length ≤ 10) ∧ ∀ c ∈ TL.tl t, ltr c
theorem len_of_tl {t : Str} : t.length = (TL.tl t).length := TL.len_tl t
theorem abc_at : ∀ r : Nat, r < 26 → (Str.ofString "abcdefghijklmnopqrstuvwxyz").cps.toList[r]? = some (97 + r) := by decide +kernel
theorem abc_at' {r : Int} (h0 : 0 ≤ r) (h1 : r < 26) : L2.atI (Str.ofString "abcdefghijklmnopqrstuvwxyz").cps.toList r = some (97 + r.toNat) := by
  obtain ⟨k, rfl⟩ := Int.eq_ofNat_of_zero_le h0
  rw [atI_nat, abc_at k (by omega)]
  rfl
theorem nil_len : (Str.ofString "").length = 0 := rfl
theorem abc_len : (Str.ofString "abcdefghijklmnopqrstuvwxyz").length = 26 := by decide +kernel
theorem abc_line : Line (Str.ofString "abcdefghijklmnopqrstuvwxyz").length := by rw [abc_len]; unfold Line; omega
theorem abc_mem : ∀ c : Nat, c ∈ (Str.ofString "abcdefghijklmnopqrstuvwxyz").cps.toList ↔ ltr c := by
  intro c
  have e : (Str.ofString "abcdefghijklmnopqrstuvwxyz").cps.toList = (List.range 26).map (97 + ·) := by decide +kernel
  rw [e]
  simp only [List.mem_map, List.mem_range, ltr]
  constructor
  · rintro ⟨k, h, rfl⟩; omega
  · intro h; exact ⟨c - 97, by omega, by omega⟩
noncomputable def one (c : Nat) : Str := ⟨#[c]⟩
theorem tl_joined (cs : List Nat) : TL.tl (Txt.join (Str.ofString "") (cs.map one)) = cs := by
  show TL.tl (Builtin.Str.glued (Str.ofString "") (cs.map one)) = cs
  rw [StrLaws.glued_eq_join, TL.tl_join]
  have e : TL.tl (Str.ofString "") = [] := rfl
  rw [e, List.map_map]
  have key : ∀ cs : List Nat, TL.joinL [] (cs.map (TL.tl ∘ one)) = cs := by
    intro cs
    induction cs with
    | nil => rfl
    | cons c cs ih =>
      cases cs with
      | nil => rfl
      | cons d r =>
        show [c] ++ ([] ++ TL.joinL [] (((d :: r).map (TL.tl ∘ one)))) = _
        rw [ih]
        rfl
  exact key cs
theorem tl_cut {z : Str} {lo hi : Option Int} : TL.tl (L2.cutS z lo hi) = cutD (TL.tl z) lo hi := by
  unfold L2.cutS cutD
  rw [len_of_tl]
theorem cut_to {α : Type} {xs : List α} {k : Nat} : cutD xs none (some (k : Int)) = xs.take k := by
  unfold cutD
  rw [HT.sIx_nat, HT.sIx_none, List.drop_zero, Nat.sub_zero, ← List.take_eq_take_min]
theorem sum_ones : ∀ cs : List Nat, ((cs.map one).map (·.length)).sum = cs.length
  | [] => rfl
  | c :: cs => by
    have ih := sum_ones cs
    simp only [List.map_cons, List.sum_cons, List.length_cons] at ih ⊢
    rw [ih]
    show 1 + cs.length = _
    omega
theorem plain_strs {k : Nat} (ts : List Str) : plainNs k (ts.map D.str) = true := plainNs_mem.mpr fun d hd => by
  obtain ⟨t, _, rfl⟩ := List.mem_map.mp hd
  simp [plainN]
theorem any_str (t : Str) : ∀ ts : List Str, ((ts.map D.str).any fun y => eqD y (.str t)) = decide (t ∈ ts)
  | [] => rfl
  | x :: ts => by
    rw [List.map_cons, List.any_cons, any_str t ts]
    show (decide (x = t) || decide (t ∈ ts)) = _
    by_cases h : x = t
    · subst h; simp
    · have h' : ¬ (t = x) := fun e => h e.symm
      simp [h, h']
theorem nodup_le {α : Type} [DecidableEq α] : ∀ (l D : List α), l.Nodup → (∀ x ∈ l, x ∈ D) → l.length ≤ D.length
  | [], _, _, _ => Nat.zero_le _
  | x :: l, D, hn, hs => by
    obtain ⟨h1, h2⟩ := List.nodup_cons.mp hn
    have hx : x ∈ D := hs x (List.mem_cons_self ..)
    have ih := nodup_le l (D.erase x) h2 fun y hy => (List.mem_erase_of_ne fun (e : y = x) => h1 (e ▸ hy)).2 (hs y (List.mem_cons_of_mem _ hy))
    have e := List.length_erase_of_mem hx
    have hp : 0 < D.length := List.length_pos_of_mem hx
    rw [List.length_cons]
    omega

noncomputable def cand (t : Str) (k : Nat) : Str := (L2.cutS t none (some 8) ++ one (97 + k)) ++ Str.ofString "q"
theorem tl_cand (t : Str) (k : Nat) : TL.tl (cand t k) = (TL.tl t).take 8 ++ [97 + k] ++ [113] := by
  unfold cand
  rw [TL.tl_append, TL.tl_append, tl_cut, show (some (8 : Int)) = some ((8 : Nat) : Int) from rfl, cut_to]
  rfl
theorem cand_inj {t : Str} {i j : Nat} (h : cand t i = cand t j) : i = j := by
  have e := congrArg TL.tl h
  rw [tl_cand, tl_cand, List.append_assoc, List.append_assoc] at e
  have := List.append_cancel_left e
  simp at this
  exact this
theorem cand_ok {t : Str} {k : Nat} (h : NmOk t) (hk : k < 26) : NmOk (cand t k) := by
  refine ⟨?_, fun c hc => ?_⟩
  · rw [tl_cand]
    simp only [List.length_append, List.length_take, List.length_cons, List.length_nil]
    omega
  · rw [tl_cand] at hc
    simp only [List.mem_append, List.mem_cons, List.not_mem_nil, or_false] at hc
    rcases hc with (hc | rfl) | rfl
    · exact h.2 c (List.mem_of_mem_take hc)
    · unfold ltr; omega
    · unfold ltr; omega
theorem cand_free {t : Str} {taken : List Str} (hl : taken.length ≤ 25) : ∃ x ∈ (List.range 26).map (cand t), x ∉ taken := by
  refine Classical.byContradiction fun hn => ?_
  have hs : ∀ x ∈ (List.range 26).map (cand t), x ∈ taken := fun x hx => Classical.byContradiction fun hx2 => hn ⟨x, hx, hx2⟩
  have hnd : ((List.range 26).map (cand t)).Nodup := by
    unfold List.Nodup
    rw [List.pairwise_map]
    exact List.Pairwise.imp (fun h e => h (cand_inj e)) List.nodup_range
  have := nodup_le _ _ hnd hs
  simp at this
  omega
theorem nameB {k_law_draw : Nat} {p : Addr} {o : O} {tk : D} {taken : List Str} (hd : DrwS C k_law_draw) (hS : S p = some o) (ho : PotO o) (htk : ∀ o', sv (S.set p o') tk = some (taken.map D.str)) (hl : taken.length ≤ 25) (h : ∀ t o', NmOk t → t ∉ taken → PotO o' → Q (.str t) (S.set p o')) :
    wpSs C P none (.cons (.asg 2 (.cst (.str "abcdefghijklmnopqrstuvwxyz"))) (.cons (.asg 3 (.bin .add true (.cst (.int 1)) (.call k_law_draw (.cons (.var 0) (.cons (.idx (.lst true (.cons (.cst (.int 1)) (.cons (.cst (.int 3)) (.cons (.cst (.int 10)) .nil)))) (.call k_law_draw (.cons (.var 0) (.cons (.cst (.int 3)) .nil)))) .nil))))) (.cons (.asg 4 (.met .join true (.cst (.str "")) (.cons (.comp true (.nm 6) (.rng1 (.var 3)) .nil (.idx (.var 2) (.call k_law_draw (.cons (.var 0) (.cons (.cst (.int 26)) .nil)))) [6]) .nil))) (.cons (.asg 5 (.bin .add true (.lst true (.cons (.var 4) .nil)) (.comp true (.nm 6) (.rng1 (.cst (.int 26))) .nil (.bin .add true (.bin .add true (.slc true (.var 4) false (.cst .non) true (.cst (.int 8))) (.idx (.var 2) (.var 6))) (.cst (.str "q"))) [6]))) (.cons (.ret (.idx (.comp true (.nm 7) (.seq (.var 5)) (.cons (.cmp .notin (.var 7) (.var 1)) .nil) (.var 7) [7]) (.cst (.int 0)))) .nil)))))
    (startD 8 [.ref p, tk]) S (retP Q E) := by
  walk_at "l3 wst"
  walk_at "l3 wst"
  refine hd _ _ _ _ _ _ hS ho (by decide) (by decide) fun r o1 hr0 hr1 ho1 => ?_
  walk_at "l3 wxs"
  refine at_in hr0 (by simpa using hr1) fun d hd1 => ?_
  obtain ⟨m, rfl, hm1, hm2⟩ : ∃ m : Int, d = .int m ∧ 1 ≤ m ∧ m ≤ 10 := by
    simp only [List.mem_cons, List.not_mem_nil, or_false] at hd1
    rcases hd1 with rfl | rfl | rfl
    · exact ⟨1, rfl, by decide, by decide⟩
    · exact ⟨3, rfl, by decide, by decide⟩
    · exact ⟨10, rfl, by decide, by decide⟩
  refine hd _ _ _ _ _ _ Sto.same ho1 (by omega) (by exact Int.lt_of_le_of_lt hm2 (by decide)) fun r2 o2 h20 h21 ho2 => ?_
  walk_at "l3 wst"
  refine ⟨by omega, ?_⟩
  refine comp_rng (fun k acc S' => ∃ (cs : List Nat) (o' : O), acc = (cs.map one).map D.str ∧ S' = S.set p o' ∧ PotO o' ∧ (∀ c ∈ cs, ltr c) ∧ cs.length = k) ?_ ?_ ⟨[], o2, rfl, rfl, ho2, (fun _ z => by cases z), rfl⟩
  · rintro k acc S' hk ⟨cs, o', rfl, rfl, ho', hc, hlc⟩
    refine ⟨by simp; omega, fun K hK => ⟨_, rfl, ?_⟩⟩
    walk_at "l3 wxs"
    refine hd _ _ _ _ _ _ Sto.same ho' (by decide) (by decide) fun r3 o3 h30 h31 ho3 => ?_
    walk_at "l3 wxs"
    rw [abc_at' h30 h31]
    walk_at "l3 wxs"
    refine ⟨abc_line, ?_⟩
    refine hK _ _ ⟨cs ++ [97 + r3.toNat], o3, by simp [one], rfl, ho3, fun c hc2 => ?_, by simp; omega⟩
    rcases List.mem_append.mp hc2 with z | z
    · exact hc c z
    · rw [List.mem_singleton.mp z]; unfold ltr; omega
  rintro acc S' ⟨cs, o3, rfl, rfl, ho3, hc, hlc⟩
  rw [strsOf_map]
  have ht0 : NmOk (Txt.join (Str.ofString "") (cs.map one)) := by
    unfold NmOk
    rw [tl_joined]
    exact ⟨by omega, hc⟩
  have hll : (Txt.join (Str.ofString "") (cs.map one)).length ≤ 10 := by rw [len_of_tl]; exact ht0.1.2
  revert ht0 hll
  walk_at "l3 wxs"
  rw [sum_ones]
  generalize Txt.join (Str.ofString "") (cs.map one) = t0
  intro ht0 hll
  have hL : Line (cs.length + (List.map one cs).length * (Str.ofString "").length) := by
    rw [nil_len, Nat.mul_zero, Nat.add_zero]
    unfold Line
    omega
  refine ⟨hL, ?_⟩
  walk_at "l3 wst"
  refine comp_rng (fun k acc S' => S' = S.set p o3 ∧ acc = ((List.range k).map (cand t0)).map D.str) ?_ ?_ ⟨rfl, rfl⟩
  · rintro k acc S' hk ⟨rfl, rfl⟩
    refine ⟨by simp; omega, fun K hK => ⟨_, rfl, ?_⟩⟩
    walk_at "l3 wxs"
    refine ⟨by unfold Line; omega, ?_⟩
    rw [abc_at k hk]
    walk_at "l3 wxs"
    have e2 : (L2.cutS t0 none (some 8)).length ≤ 8 := by
      rw [len_of_tl, tl_cut, show (some (8 : Int)) = some ((8 : Nat) : Int) from rfl, cut_to, List.length_take]
      omega
    have e3 : (L2.cutS t0 none (some 8) ++ one (97 + k)).length ≤ 9 := by
      rw [len_of_tl, TL.tl_append, List.length_append, ← len_of_tl]
      show _ + 1 ≤ 9
      omega
    refine ⟨abc_line, ?_, ?_, hK _ _ ⟨rfl, ?_⟩⟩
    · show Line (_ + 1)
      unfold Line
      omega
    · show Line ((L2.cutS t0 none (some 8) ++ one (97 + k)).length + 1)
      unfold Line
      omega
    · rw [List.range_succ, List.map_append, List.map_append]
      rfl
  rintro acc S' ⟨rfl, ha⟩
  obtain ⟨L, hL1, hL2, hL3⟩ : ∃ L : List Str, D.str t0 :: acc = L.map D.str ∧ L.length = 27 ∧ (∀ x ∈ L, NmOk x) ∧ ∃ x ∈ L, x ∉ taken := by
    obtain ⟨x, hx1, hx2⟩ := cand_free (t := t0) hl
    refine ⟨t0 :: (List.range 26).map (cand t0), by rw [ha, List.map_cons], by simp, fun y hy => ?_, x, List.mem_cons_of_mem _ hx1, hx2⟩
    rcases List.mem_cons.mp hy with rfl | hy
    · exact ht0
    · obtain ⟨k, hk, rfl⟩ := List.mem_map.mp hy
      exact cand_ok ht0 (List.mem_range.mp hk)
  have ha2 : acc.length = 26 := by rw [ha]; simp
  clear ha
  refine ⟨by unfold Line; omega, ?_⟩
  walk_at "l3 wst"
  rw [hL1]
  refine comp_filt (α := Str) D.str (fun rr acc S' => S' = S.set p o3 ∧ ∃ pre, pre ++ rr = L ∧ acc = (pre.filter fun x => !decide (x ∈ taken)).map D.str) (fun _ _ _ _ => trivial) ?_ ?_ L [] _ ⟨rfl, [], rfl, rfl⟩
  · rintro x rr acc S' K ⟨rfl, pre, hp, rfl⟩ hK
    have hpl : pre.length ≤ 27 := by
      have := congrArg List.length hp
      simp at this
      omega
    refine ⟨_, rfl, ?_⟩
    (wp_walk using c_notin)
    refine in_seq (htk o3) rfl (plain_strs taken) ?_
    rw [show topD (S.set p o3) (D.str x) = .str x from rfl, any_str]
    refine onB_d (fun hx => ?_) (fun hx => ?_)
    · refine hK _ _ ⟨rfl, pre ++ [x], by simp [hp], ?_⟩
      rw [List.filter_append, List.filter_cons_of_neg (by simp [hx])]
      simp
    · have hfl := List.length_filter_le (fun x => !decide (x ∈ taken)) pre
      refine ⟨by rw [List.length_map]; omega, hK _ _ ⟨rfl, pre ++ [x], by simp [hp], ?_⟩⟩
      rw [List.filter_append, List.filter_cons_of_pos (by simp [hx])]
      simp
  rintro acc S' ⟨rfl, pre, hp, rfl⟩
  rw [List.append_nil] at hp
  subst hp
  obtain ⟨hok, x, hx1, hx2⟩ := hL3
  cases hf : pre.filter fun x => !decide (x ∈ taken) with
  | nil =>
    exfalso
    have : x ∈ pre.filter fun x => !decide (x ∈ taken) := List.mem_filter.mpr ⟨hx1, by simp [hx2]⟩
    rw [hf] at this
    cases this
  | cons y ys =>
    have hy : y ∈ pre.filter fun x => !decide (x ∈ taken) := by rw [hf]; exact List.mem_cons_self ..
    obtain ⟨hy1, hy2⟩ := List.mem_filter.mp hy
    exact ⟨_, le0, h y o3 (hok y hy1) (by simpa using hy2) ho3⟩
theorem comp_nil {tg : Tg} {own : List Nat} {ts e : WEx} {g : Sto → Prop} {acc : List D} {fr : Fr} {K : PoL} (hg : g S) (h : K acc S) : compW tg own ts e g [] acc fr S K := by
  unfold compW
  exact ⟨hg, h⟩
theorem comp_cons {tg : Tg} {own : List Nat} {e : WEx} {g : Sto → Prop} {d : D} {r acc : List D} {fr fr2 : Fr} {K : PoL} (hg : g S) (hb : bindG tg d (wipeD fr own) = some fr2) (h : e fr2 S (fun y S4 => acc.length < 16000000 ∧ compW tg own (wpTs C P ex .nil) e g r (acc ++ [y]) fr S4 K) noX) : compW tg own (wpTs C P ex .nil) e g (d :: r) acc fr S K := by
  unfold compW
  rw [hb]
  refine ⟨hg, ?_⟩
  dsimp only
  rw [r_ts0]
  exact h
theorem div_nn {a b : Int} (ha : 0 ≤ a) (hb : 0 < b) : (0 : Rat) ≤ a /. b := Rat.divInt_nonneg ha (by omega)
structure Meas (e : Nat) (q : Rat) : Prop where
  nn : 0 ≤ q
  sz : Sz e q
structure StOk (e : Nat) (t : Str) (f w s th pr : Rat) : Prop where
  nm : NmOk t
  hf : Meas e f
  hw : Meas e w
  hs : Meas e s
  hth : Meas e th
  hpr : Meas e pr
  le : f + w + s ≤ 1
theorem meas0 {e : Nat} : Meas (e + 1) 0 := ⟨by decide, Sz.zero (by omega)⟩
theorem Meas.mono {e d : Nat} {q : Rat} (h : Meas e q) (k : e ≤ d) : Meas d q := ⟨h.nn, h.sz.mono k⟩
end
end L4

namespace L4
open PySem
local macro_rules | `(tactic| wp_walk using $ls:term,*) => `(tactic| simp only [r_var, r_cst, r_fnv, r_clv, r_tyv, r_gc, r_bin, r_neg, r_nt, r_cmp, r_conj, r_disj, r_ite, r_tup, r_lst, r_dsp0, r_dsp, r_idx, r_fld, r_call, r_callk, r_callv, r_make, r_mcl, r_blt, r_comp, r_fst, r_frz, r_met, r_rvs, r_slc00, r_slc10, r_slc01, r_slc11, r_chain, r_conj1, r_conj2, r_disj1, r_disj2, r_ts0, r_ts1, r_es0, r_es1, r_asg, r_asgc, r_par, r_asgt, r_sub, r_fset, r_exp, r_ret, r_retn, r_ifs, r_fors, r_whil, r_rais, r_pass, r_frzs, r_tryo, r_anm, r_asub, r_as0, r_as1, r_rng1, r_seq, r_txt, r_rev, onB_t, onB_f, onB_n, onI_i, onS_s, onT_t, onR_r, onV_s, onF_f, onO_s, onG_s, sv_t, sv_l, wk_t, wk_l, wk_s, newL_t, newL_f, bin_add, bin_cat, bin_catT, bin_catL, bin_sub, bin_mul, bin_repL, bin_mod, bin_fdiv, bin_pow, c_eq_i, c_eq_s, c_eq_b, c_ne_i, c_ne_s, c_ne_b, c_lt, c_lt_s, c_le, c_gt, c_ge, c_is, c_isnot, idx_tup, idx_lst, idx_scr, atI_0, atI_1, atI_2, atI_3, atI_4, atI_5, atI_6, atI_nat, b_len_tup, b_len_lst, b_len_scr, b_len_str, b_len_dct, b_abs, b_int, b_int_bl, b_max, b_min, b_divmod, b_str_i, b_str_s, b_all, b_any, b_sum, b_list_l, b_list_t, b_tuple_l, wpF, bindG, bindGs, ITs.len, IEs.len, pick, startD, L4.Po.behind, id_eq, Sto.same, Sto.set_set, List.map_cons, List.map_nil, List.length_cons, List.length_nil, List.getElem?_cons_zero, List.getElem?_cons_succ, List.set_cons_zero, List.set_cons_succ, List.replicate, List.cons_append, List.nil_append, List.append_nil, List.filterMap_cons, List.filterMap_nil, Nat.reduceAdd, Nat.reduceSub, Nat.reduceLeDiff, Nat.reduceEqDiff, Int.reduceToNat, Int.reducePow, Int.reduceMul, Int.reduceSub, Int.reduceAdd, Int.reduceNeg, Int.reduceLE, Int.reduceLT, true_and, and_true, decide_true, decide_false, Bool.not_true, Bool.not_false, reduceCtorEq, ne_eq, not_false_eq_true, r_oeq, r_osp, r_cllx, r_ocmp, r_enm, r_zip, zk_tt, zk_ll, r_rng2, r_dct, dk_d, dk_d2, wk_map, c_isb, c_isnotb, oe_int, oe_str, oe_bl, oe_non, oe_tup, oe_lst, oe_ins, os_rep, os_len, eqOk_non, eqOk_int, eqOk_bl, eqOk_str, eqOk_tup, eqOk_lst, eqOk_ins, sl_tup, sl_str, sl_lst, iv_i, fld_i, b_isi, cl_int, cl_bool, cl_str, cl_list, cl_tuple, cl_dict, cl_lt, is_non, is_int, is_bl, is_str, is_tup, is_lst, is_dct, isT, isSub, List.any_cons, List.any_nil, Bool.or_false, Bool.false_or, Bool.or_true, Bool.true_or, Bool.and_true, Bool.true_and, Bool.and_false, Bool.false_and, String.reduceBEq, wkV_g, wkV_ds, wkV_bk, idx_str, m_join, ty_str, wipeD, List.foldl_cons, List.foldl_nil, ix_q0, ix_q1, isNo_non, isNo_int, isNo_str, isNo_bl, isNo_tup, isNo_lst, isNo_ref, isNo_ins, isNo_dct, isNo_frQ, bin_repT, cutL_to, cutL_from, cutL_both, cutN_to, cutN_from, cutN_both, List.take_succ_cons, List.take_zero, List.drop_succ_cons, List.drop_zero, List.take_nil, List.drop_nil, ky_nil, ky_str, ky_tup, ky_lst, ky_non, ky_ins, ky_1, ky_3, ky_q, Bool.true_beq, Bool.false_beq, bin_repS, r_frzo, $[$ls:term],*])
local macro_rules | `(tactic| walk_at "l3 wxs") => `(tactic| simp only [r_var, r_cst, r_fnv, r_clv, r_tyv, r_gc, r_bin, r_neg, r_nt, r_cmp, r_conj, r_disj, r_ite, r_tup, r_lst, r_dsp0, r_dsp, r_idx, r_fld, r_call, r_callk, r_callv, r_make, r_mcl, r_blt, r_comp, r_fst, r_frz, r_met, r_rvs, r_slc00, r_slc10, r_slc01, r_slc11, r_chain, r_conj1, r_conj2, r_disj1, r_disj2, r_ts0, r_ts1, r_es0, r_es1, r_asg, r_asgc, r_par, r_asgt, r_sub, r_fset, r_exp, r_ret, r_retn, r_ifs, r_fors, r_whil, r_rais, r_pass, r_frzs, r_tryo, r_anm, r_asub, r_as0, r_as1, r_rng1, r_seq, r_txt, r_rev, onB_t, onB_f, onB_n, onI_i, onS_s, onT_t, onR_r, onV_s, onF_f, onO_s, onG_s, sv_t, sv_l, wk_t, wk_l, wk_s, newL_t, newL_f, bin_add, bin_cat, bin_catT, bin_catL, bin_sub, bin_mul, bin_repL, bin_mod, bin_fdiv, bin_pow, c_eq_i, c_eq_s, c_eq_b, c_ne_i, c_ne_s, c_ne_b, c_lt, c_lt_s, c_le, c_gt, c_ge, c_is, c_isnot, idx_tup, idx_lst, idx_scr, atI_0, atI_1, atI_2, atI_3, atI_4, atI_5, atI_6, atI_nat, b_len_tup, b_len_lst, b_len_scr, b_len_str, b_len_dct, b_abs, b_int, b_int_bl, b_max, b_min, b_divmod, b_str_i, b_str_s, b_all, b_any, b_sum, b_list_l, b_list_t, b_tuple_l, wpF, bindG, bindGs, ITs.len, IEs.len, pick, startD, L4.Po.behind, id_eq, Sto.same, Sto.set_set, List.map_cons, List.map_nil, List.length_cons, List.length_nil, List.getElem?_cons_zero, List.getElem?_cons_succ, List.set_cons_zero, List.set_cons_succ, List.replicate, List.cons_append, List.nil_append, List.append_nil, List.filterMap_cons, List.filterMap_nil, Nat.reduceAdd, Nat.reduceSub, Nat.reduceLeDiff, Nat.reduceEqDiff, Int.reduceToNat, Int.reducePow, Int.reduceMul, Int.reduceSub, Int.reduceAdd, Int.reduceNeg, Int.reduceLE, Int.reduceLT, true_and, and_true, decide_true, decide_false, Bool.not_true, Bool.not_false, reduceCtorEq, ne_eq, not_false_eq_true, r_oeq, r_osp, r_cllx, r_ocmp, r_enm, r_zip, zk_tt, zk_ll, r_rng2, r_dct, dk_d, dk_d2, wk_map, c_isb, c_isnotb, oe_int, oe_str, oe_bl, oe_non, oe_tup, oe_lst, oe_ins, os_rep, os_len, eqOk_non, eqOk_int, eqOk_bl, eqOk_str, eqOk_tup, eqOk_lst, eqOk_ins, sl_tup, sl_str, sl_lst, iv_i, fld_i, b_isi, cl_int, cl_bool, cl_str, cl_list, cl_tuple, cl_dict, cl_lt, is_non, is_int, is_bl, is_str, is_tup, is_lst, is_dct, isT, isSub, List.any_cons, List.any_nil, Bool.or_false, Bool.false_or, Bool.or_true, Bool.true_or, Bool.and_true, Bool.true_and, Bool.and_false, Bool.false_and, String.reduceBEq, wkV_g, wkV_ds, wkV_bk, idx_str, m_join, ty_str, wipeD, List.foldl_cons, List.foldl_nil, ix_q0, ix_q1, isNo_non, isNo_int, isNo_str, isNo_bl, isNo_tup, isNo_lst, isNo_ref, isNo_ins, isNo_dct, isNo_frQ, bin_repT, cutL_to, cutL_from, cutL_both, cutN_to, cutN_from, cutN_both, List.take_succ_cons, List.take_zero, List.drop_succ_cons, List.drop_zero, List.take_nil, List.drop_nil, ky_nil, ky_str, ky_tup, ky_lst, ky_non, ky_ins, ky_1, ky_3, ky_q, Bool.true_beq, Bool.false_beq, bin_repS, r_frzo])
local macro_rules | `(tactic| walk_at "l3 wst") => `(tactic| (refine stepS rfl ?_; walk_at "l3 wxs"))
local macro_rules | `(tactic| walk_at "l3 wnl") => `(tactic| (refine nilS rfl ?_; (try walk_at "l3 wxs")))
open scoped Rat

section
variable {C : CallF} {P : Pg} {ex : Option Exc} {S : Sto} {Q : PoE} {E : PoX} {Po : L4.Po}

theorem comp_pure {α : Type} {tg : Tg} {own : List Nat} {e : WEx} {g0 : Sto → Prop} {fr : Fr} {K0 : PoL} (f g : α → D) {xs : List α} (hg : g0 S) (hl : xs.length ≤ 16000000)
    (turn : ∀ x ∈ xs, ∀ K : PoE, K (g x) S → ∃ fr2, bindG tg (f x) (wipeD fr own) = some fr2 ∧ e fr2 S K noX)
    (fin : K0 (xs.map g) S) : compW tg own (wpTs C P ex .nil) e g0 (xs.map f) [] fr S K0 := by
  refine L4.comp_map (α := α) f (fun rr acc S' => S' = S ∧ ∃ pre, pre ++ rr = xs ∧ acc = pre.map g) (fun r acc S' h => by rw [h.1]; exact hg) (fun x r acc S' h => ?_) (fun acc S' h => ?_) xs [] S ⟨rfl, [], rfl, rfl⟩
  · obtain ⟨rfl, pre, hp, rfl⟩ := h
    refine ⟨?_, fun K hK => turn x (by rw [← hp]; simp) K (hK _ _ ⟨rfl, pre ++ [x], by simp [hp], by simp⟩)⟩
    have := congrArg List.length hp
    simp at this
    rw [List.length_map]
    omega
  · obtain ⟨rfl, pre, hp, rfl⟩ := h
    rw [List.append_nil] at hp
    subst hp
    exact fin
noncomputable instance (t : Str) : Decidable (NmOk t) := by unfold NmOk; infer_instance
noncomputable def isNm : D → Bool
  | .str t => decide (NmOk t)
  | _ => false
noncomputable def isWh : D → Bool
  | .int _ => true
  | _ => false
noncomputable def isFr : D → Bool
  | .tup [.int a, .int b] => decide (0 < b) && decide (Int.gcd a b = 1)
  | _ => false

noncomputable def Tyd (S : Sto) (x : D) : Prop := ∃ t, tyI S x = some t

noncomputable def TydP (S : Sto) : D → Prop
  | .tup [a, b] => Tyd S a ∧ Tyd S b
  | x => Tyd S x
theorem is_ty {x : D} {t : String} {us : List Cl} (h : tyI S x = some t) : isiD P S x us = some (us.any (isT t)) := by
  unfold isiD; rw [h]
theorem tyI_cases {x : D} {t : String} (h : tyI S x = some t) : isWh x = (t == "int") ∧ ((∃ z, x = .str z) ∨ t ≠ "str") ∧ ((∃ ds, x = .tup ds) ∨ t ≠ "tuple") := by
  unfold tyI at h
  cases x <;> simp only [tyD] at h <;> first
    | (cases h; refine ⟨rfl, ?_, ?_⟩ <;> first | exact .inl ⟨_, rfl⟩ | exact .inr (by decide))
    | (split at h <;> cases h <;> refine ⟨rfl, ?_, ?_⟩ <;> first | exact .inl ⟨_, rfl⟩ | exact .inr (by decide))
    | cases h
noncomputable abbrev WhoS (C : CallF) (k : Nat) : Prop := ∀ (x : D) (S : Sto) (Q : PoE) (E : PoX), Tyd S x → Q (.bl (isWh x)) S → C k [x] none S Q E
theorem wholeB {x : D} (hx : Tyd S x) (h : Q (.bl (isWh x)) S) : wpSs C P none (.cons (.ret (.conj (.cons (.blt .isi true (.cons (.var 0) (.cons (.tyv "int") .nil))) (.cons (.nt (.blt .isi true (.cons (.var 0) (.cons (.tyv "bool") .nil)))) .nil)))) .nil)
    (startD 1 [x]) S (retP Q E) := by
  obtain ⟨t, ht⟩ := hx
  refine stepS rfl ?_
  (wp_walk using is_ty ht)
  rw [(tyI_cases ht).1] at h
  unfold tyI at ht
  by_cases h1 : t = "int"
  · subst h1
    walk_at "l3 wxs"
    exact ⟨_, le0, h⟩
  · by_cases h2 : t = "bool"
    · subst h2
      walk_at "l3 wxs"
      exact ⟨_, le0, h⟩
    · have e1 : (t == "int") = false := beq_eq_false_iff_ne.mpr h1
      have e2 : (t == "bool") = false := beq_eq_false_iff_ne.mpr h2
      rw [e1] at h
      rw [e1, e2]
      walk_at "l3 wxs"
      exact ⟨_, le0, h⟩
noncomputable abbrev NamS (C : CallF) (k : Nat) : Prop := ∀ (x : D) (S : Sto) (Q : PoE) (E : PoX), Tyd S x → (∀ t, x = .str t → t.length ≤ 16000000) → Q (.bl (isNm x)) S → C k [x] none S Q E
theorem isnameB {x : D} {jL jM : Nat} {nL nM : Str} (hL : P.gcs[jL]? = some (nL, .str "abcdefghijklmnopqrstuvwxyz")) (hM : P.gcs[jM]? = some (nM, .int 10)) (hx : Tyd S x) (hl : ∀ t, x = .str t → t.length ≤ 16000000) (h : Q (.bl (isNm x)) S) : wpSs C P none (.cons (.ifs (.disj (.cons (.nt (.blt .isi true (.cons (.var 0) (.cons (.tyv "str") .nil)))) (.cons (.nt (.chain .le .le (.cst (.int 1)) (.blt .len true (.cons (.var 0) .nil)) (.gc jM))) .nil))) (.cons (.ret (.cst (.bl false))) .nil) .nil) (.cons (.ret (.blt .all true (.cons (.comp true (.nm 1) (.txt (.var 0)) .nil (.cmp .isin (.var 1) (.gc jL)) [1]) .nil))) .nil))
    (startD 2 [x]) S (retP Q E) := by
  obtain ⟨t, ht⟩ := hx
  refine stepS rfl ?_
  (wp_walk using is_ty ht)
  rcases (tyI_cases ht).2.1 with ⟨z, rfl⟩ | hn
  · cases ht
    (wp_walk using hM, onG_s)
    have hz := hl z rfl
    refine ⟨hz, ?_⟩
    have no : ¬ NmOk z → isNm (.str z) = false := fun hh => decide_eq_false hh
    refine onB_d (fun h1 => ?_) (fun h1 => ?_)
    · refine onB_d (fun h2 => ?_) (fun h2 => ?_)
      · walk_at "l3 wnl"
        refine stepS rfl ?_
        walk_at "l3 wxs"
        refine ⟨hz, ?_⟩
        refine comp_pure (α := Nat) (fun c => D.str ⟨#[c]⟩) (fun c => D.bl (decide (ltr c))) trivial (by rw [len_of_tl] at hz; exact hz) (fun c hc K hK => ⟨_, rfl, ?_⟩) ?_
        · (wp_walk using hL, onG_s)
          show K (.bl (!(Builtin.Str.occurrences (Str.ofString "abcdefghijklmnopqrstuvwxyz") ⟨#[c]⟩ 0 (Str.ofString "abcdefghijklmnopqrstuvwxyz").length 1).isEmpty)) S
          rw [StrLaws.found_one, decide_eq_decide.mpr (abc_mem c)]
          exact hK
        · rw [show (List.map (fun c => D.bl (decide (ltr c))) z.cps.toList) = (z.cps.toList.map fun c => decide (ltr c)).map D.bl by rw [List.map_map]; rfl]
          walk_at "l3 wxs"
          refine ⟨_, le0, ?_⟩
          have e : (List.map (fun c => decide (ltr c)) z.cps.toList).all id = isNm (.str z) := by
            show _ = decide (NmOk z)
            rw [List.all_map, Bool.eq_iff_iff, List.all_eq_true, decide_eq_true_eq]
            rw [len_of_tl] at h1 h2
            constructor
            · intro hh
              exact ⟨⟨by omega, by omega⟩, fun c hc => by simpa using hh c hc⟩
            · intro hh c hc
              simpa using hh.2 c hc
          rw [e]
          exact h
      · walk_at "l3 wst"
        refine ⟨_, le0, ?_⟩
        rw [no fun hh => h2 (by have := hh.1.2; rw [len_of_tl]; omega)] at h
        exact h
    · walk_at "l3 wst"
      refine ⟨_, le0, ?_⟩
      rw [no fun hh => h1 (by have := hh.1.1; rw [len_of_tl]; omega)] at h
      exact h
  · have e1 : (t == "str") = false := beq_eq_false_iff_ne.mpr hn
    rw [e1]
    walk_at "l3 wxs"
    walk_at "l3 wst"
    refine ⟨_, le0, ?_⟩
    have e2 : isNm x = false := by
      cases x <;> first | rfl | (exfalso; cases ht; exact hn rfl)
    rw [e2] at h
    exact h
theorem b_all_of {fz : Bool} {xs : List D} {bs : List Bool} (h : allBl xs = some bs) : wpB P .all fz [.lst xs] S Q = Q (.bl (bs.all id)) S := by
  unfold wpB; simp only [lv, h]
noncomputable abbrev FriS (C : CallF) (k : Nat) : Prop := ∀ (x : D) (S : Sto) (Q : PoE) (E : PoX), TydP S x → Q (.bl (isFr x)) S → C k [x] none S Q E
theorem tydP_tup {S : Sto} {ds : List D} : Tyd S (.tup ds) := ⟨_, rfl⟩
theorem isfractionB {k_is_whole k_common : Nat} {x : D} (hw : WhoS C k_is_whole) (hc : ComS C k_common) (hx : TydP S x) (h : Q (.bl (isFr x)) S) : wpSs C P none (.cons (.ifs (.disj (.cons (.nt (.blt .isi true (.cons (.var 0) (.cons (.tyv "tuple") .nil)))) (.cons (.cmp .ne (.blt .len true (.cons (.var 0) .nil)) (.cst (.int 2))) (.cons (.nt (.blt .all true (.cons (.comp true (.nm 1) (.seq (.var 0)) .nil (.call k_is_whole (.cons (.var 1) .nil)) [1]) .nil))) .nil)))) (.cons (.ret (.cst (.bl false))) .nil) .nil) (.cons (.ret (.conj (.cons (.cmp .gt (.idx (.var 0) (.cst (.int 1))) (.cst (.int 0))) (.cons (.cmp .eq (.call k_common (.cons (.idx (.var 0) (.cst (.int 0))) (.cons (.idx (.var 0) (.cst (.int 1))) .nil))) (.cst (.int 1))) .nil)))) .nil))
    (startD 2 [x]) S (retP Q E) := by
  have hT : Tyd S x := by
    unfold TydP at hx
    split at hx
    · exact tydP_tup
    · exact hx
  obtain ⟨t, ht⟩ := hT
  refine stepS rfl ?_
  (wp_walk using is_ty ht)
  rcases (tyI_cases ht).2.2 with ⟨ds, rfl⟩ | hn
  · cases ht
    have no : (∀ a b, ds ≠ [.int a, .int b]) → isFr (.tup ds) = false := fun hh => by
      unfold isFr
      split
      · rename_i a b e
        cases e
        exact absurd rfl (hh a b)
      · rfl
    walk_at "l3 wxs"
    by_cases hl : ds.length = 2
    · have e : decide ((ds.length : Int) = 2) = true := decide_eq_true (by omega)
      rw [e]
      obtain ⟨a, b, rfl⟩ : ∃ a b, ds = [a, b] := by
        match ds, hl with
        | [a, b], _ => exact ⟨a, b, rfl⟩
      obtain ⟨ha, hb⟩ : Tyd S a ∧ Tyd S b := hx
      walk_at "l3 wxs"
      refine comp_cons trivial rfl ?_
      walk_at "l3 wxs"
      refine hw _ _ _ _ ha ⟨by decide, comp_cons trivial rfl ?_⟩
      walk_at "l3 wxs"
      refine hw _ _ _ _ hb ⟨by simp, comp_nil trivial ?_⟩
      · rw [b_all_of (bs := [isWh a, isWh b]) rfl]
        by_cases hi : (∃ i, a = .int i) ∧ ∃ j, b = .int j
        · obtain ⟨⟨i, rfl⟩, j, rfl⟩ := hi
          rw [show [isWh (.int i), isWh (.int j)].all id = true from rfl]
          walk_at "l3 wxs"
          walk_at "l3 wnl"
          refine stepS rfl ?_
          walk_at "l3 wxs"
          refine onB_d (fun h1 => ?_) (fun h1 => ?_)
          · refine hc _ _ _ _ _ ?_
            walk_at "l3 wxs"
            refine ⟨_, le0, ?_⟩
            rw [show isFr (.tup [.int i, .int j]) = (decide (0 < j) && decide (Int.gcd i j = 1)) from rfl, decide_eq_true h1] at h
            rw [show decide ((Int.gcd i j : Int) = 1) = decide (Int.gcd i j = 1) from decide_eq_decide.mpr (by omega)]
            simpa using h
          · refine ⟨_, le0, ?_⟩
            rw [show isFr (.tup [.int i, .int j]) = (decide (0 < j) && decide (Int.gcd i j = 1)) from rfl, decide_eq_false h1] at h
            exact h
        · have e : [isWh a, isWh b].all id = false := by
            cases a <;> cases b <;> first | rfl | exact absurd ⟨⟨_, rfl⟩, ⟨_, rfl⟩⟩ hi
          rw [e]
          walk_at "l3 wxs"
          walk_at "l3 wst"
          refine ⟨_, le0, ?_⟩
          rw [no fun i j z => hi (by cases z; exact ⟨⟨_, rfl⟩, ⟨_, rfl⟩⟩)] at h
          exact h
    · have e : decide ((ds.length : Int) = 2) = false := decide_eq_false (by omega)
      rw [e]
      walk_at "l3 wxs"
      walk_at "l3 wst"
      refine ⟨_, le0, ?_⟩
      rw [no fun i j z => hl (by rw [z]; rfl)] at h
      exact h
  · have e1 : (t == "tuple") = false := beq_eq_false_iff_ne.mpr hn
    rw [e1]
    walk_at "l3 wxs"
    walk_at "l3 wst"
    refine ⟨_, le0, ?_⟩
    have e2 : isFr x = false := by
      cases x <;> first | rfl | (exfalso; cases ht; exact hn rfl)
    rw [e2] at h
    exact h

noncomputable def ratOf : D → Rat
  | .tup [.int a, .int b] => a /. b
  | _ => 0
noncomputable def isMs (x : D) : Bool := isFr x && decide (0 ≤ ratOf x)
theorem fr_of {x : D} (h : isFr x = true) : x = frQ (ratOf x) := by
  unfold isFr at h
  split at h
  · rename_i a b
    rw [Bool.and_eq_true, decide_eq_true_eq, decide_eq_true_eq] at h
    exact frQ_pair h.1 h.2
  · cases h
theorem isFr_frQ (q : Rat) : isFr (frQ q) = true := by
  show (decide ((0 : Int) < q.den) && decide (Int.gcd q.num q.den = 1)) = true
  rw [Bool.and_eq_true, decide_eq_true_eq, decide_eq_true_eq]
  exact ⟨by have := den_pos q; omega, by have := q.reduced; simpa [Int.gcd, Nat.Coprime] using this⟩
theorem ratOf_frQ (q : Rat) : ratOf (frQ q) = q := Rat.num_divInt_den q
theorem num_ge (q : Rat) : (0 ≤ q.num) ↔ (0 ≤ q) := Rat.num_nonneg
noncomputable abbrev MeaS (C : CallF) (k : Nat) : Prop := ∀ (x : D) (S : Sto) (Q : PoE) (E : PoX), TydP S x → Q (.bl (isMs x)) S → C k [x] none S Q E
theorem ismeasureB {k_is_fraction : Nat} {x : D} (hf : FriS C k_is_fraction) (hx : TydP S x) (h : Q (.bl (isMs x)) S) : wpSs C P none (.cons (.ret (.conj (.cons (.call k_is_fraction (.cons (.var 0) .nil)) (.cons (.cmp .ge (.idx (.var 0) (.cst (.int 0))) (.cst (.int 0))) .nil)))) .nil)
    (startD 1 [x]) S (retP Q E) := by
  walk_at "l3 wst"
  refine hf _ _ _ _ hx ?_
  unfold isMs at h
  cases hfr : isFr x with
  | false =>
    rw [hfr] at h
    walk_at "l3 wxs"
    exact ⟨_, le0, h⟩
  | true =>
    rw [hfr] at h
    have e := fr_of hfr
    generalize ratOf x = q at h e
    subst e
    walk_at "l3 wxs"
    refine ⟨_, le0, ?_⟩
    rw [show decide (0 ≤ q.num) = decide (0 ≤ q) from decide_eq_decide.mpr (num_ge q)]
    simpa using h
noncomputable def orN : D → D
  | .non => frQ 0
  | x => x
noncomputable abbrev OrnS (C : CallF) (k : Nat) : Prop := ∀ (x : D) (S : Sto) (Q : PoE) (E : PoX), Q (orN x) S → C k [x] none S Q E
theorem ornoneB {x : D} {jN : Nat} {nN : Str} (hN : P.gcs[jN]? = some (nN, .tup [.int 0, .int 1])) (h : Q (orN x) S) : wpSs C P none (.cons (.ifs (.cmp .is_ (.var 0) (.cst .non)) (.cons (.ret (.gc jN)) .nil) .nil) (.cons (.ret (.var 0)) .nil))
    (startD 1 [x]) S (retP Q E) := by
  walk_at "l3 wst"
  by_cases hx : x = .non
  · subst hx
    walk_at "l3 wxs"
    (refine stepS rfl ?_; (wp_walk using hN, onG_s))
    exact ⟨_, le0, h⟩
  · have e : isNo x = false := by cases x <;> first | rfl | exact absurd rfl hx
    have e2 : orN x = x := by cases x <;> first | rfl | exact absurd rfl hx
    rw [e2] at h
    rw [e]
    walk_at "l3 wxs"
    walk_at "l3 wnl"
    walk_at "l3 wst"
    exact ⟨_, le0, h⟩
noncomputable abbrev PluS (C : CallF) (k : Nat) : Prop := ∀ (p q : Rat) (S : Sto) (Q : PoE) (E : PoX), Sz 4000 p → Sz 4000 q → Q (frQ (p + q)) S → C k [frQ p, frQ q] none S Q E
noncomputable abbrev LesS (C : CallF) (k : Nat) : Prop := ∀ (p q : Rat) (S : Sto) (Q : PoE) (E : PoX), Sz 4000 p → Sz 4000 q → Q (.bl (decide (p < q))) S → C k [frQ p, frQ q] none S Q E
theorem sum_cons' (x : Rat) (xs : List Rat) : (x :: xs).sum = x + xs.sum := List.sum_cons
theorem sum_snoc (xs : List Rat) (y : Rat) : (xs ++ [y]).sum = xs.sum + y := by
  induction xs with
  | nil =>
    rw [List.nil_append, sum_cons', List.sum_nil]
    grind
  | cons x xs ih =>
    rw [List.cons_append, sum_cons', sum_cons', ih]
    grind

noncomputable def SumOk (qs : List Rat) : Prop := (∀ q ∈ qs, Sz 4000 q) ∧ ∀ k, Sz 4000 (qs.take k).sum
theorem sum_sz {e : Nat} : ∀ {qs : List Rat}, (∀ q ∈ qs, Sz e q) → Sz (1 + (e + 1) * qs.length) qs.sum
  | [], _ => Sz.zero (by simp)
  | x :: r, h => by
    rw [sum_cons', List.length_cons, Nat.mul_succ]
    exact ((h x (List.mem_cons_self ..)).add (sum_sz fun q hq => h q (List.mem_cons_of_mem _ hq))).mono (by omega)
theorem SumOk.of {qs : List Rat} (h : ∃ e, (∀ q ∈ qs, Sz e q) ∧ 1 + (e + 1) * qs.length ≤ 3900) : SumOk qs := by
  obtain ⟨e, h1, h2⟩ := h
  refine ⟨fun q hq => (h1 q hq).mono ?_, fun k => (sum_sz fun q hq => h1 q (List.mem_of_mem_take hq)).mono ?_⟩
  · have : 1 ≤ qs.length := by
      cases qs with
      | nil => cases hq
      | cons => simp
    have : (e + 1) * 1 ≤ (e + 1) * qs.length := Nat.mul_le_mul_left _ this
    omega
  · have : (e + 1) * (qs.take k).length ≤ (e + 1) * qs.length := Nat.mul_le_mul_left _ (by rw [List.length_take]; omega)
    omega
theorem SumOk.sz {qs : List Rat} (h : SumOk qs) : Sz 4000 qs.sum := by
  have := h.2 qs.length
  rwa [List.take_length] at this
noncomputable abbrev SumS (C : CallF) (k : Nat) : Prop := ∀ (qs : List Rat) (x : D) (S : Sto) (Q : PoE) (E : PoX), wkSeq S x = some (wkV (qs.map frQ)) → SumOk qs → Q (frQ qs.sum) S → C k [x] none S Q E

theorem sum_walk {qs : List Rat} {g0 : Sto → Prop} {tg : Tg} {b : WSb} (hg : g0 S) (hs : SumOk qs) (F : Rat → Option D → Fr) (u0 : Option D)
    (turn : ∀ (t y : Rat) (u : Option D) (K : Fr → Sto → Prop), Sz 4000 t → Sz 4000 y → (∀ u', K (F (t + y) u') S) → ∃ fr2, bindG tg (frQ y) (F t u) = some fr2 ∧ b fr2 S { nx := K, rt := Po.rt, bk := Po.nx, ct := K, xc := Po.xc })
    (fin : ∀ u, Po.nx (F qs.sum u) S) : forW tg b g0 (qs.map frQ) (F 0 u0) S Po := by
  refine for_map (α := Rat) frQ (fun r fr S' => ∃ pre u, fr = F pre.sum u ∧ S' = S ∧ pre ++ r = qs) (fun _ _ _ h => by
    obtain ⟨_, _, _, rfl, _⟩ := h
    exact hg) ?_ ?_ qs _ S ⟨[], u0, by rw [List.sum_nil], rfl, rfl⟩
  · rintro y r fr S' K ⟨pre, u, rfl, rfl, hp⟩ hK
    have ep : pre = qs.take pre.length := by rw [← hp, List.take_left' rfl]
    refine turn pre.sum y u K (by rw [ep]; exact hs.2 _) (hs.1 y (by rw [← hp]; simp)) fun u' => ?_
    rw [← sum_snoc]
    exact hK _ _ ⟨pre ++ [y], u', rfl, rfl, by rw [List.append_assoc]; exact hp⟩
  · rintro fr S' ⟨pre, u, rfl, rfl, hp⟩
    rw [List.append_nil] at hp
    subst hp
    exact fin u
theorem sumofB {k_plus : Nat} {x : D} {qs : List Rat} {jN : Nat} {nN : Str} (hp : PluS C k_plus) (hN : P.gcs[jN]? = some (nN, .tup [.int 0, .int 1])) (hx : wkSeq S x = some (wkV (qs.map frQ))) (hs : SumOk qs) (h : Q (frQ qs.sum) S) : wpSs C P none (.cons (.asg 1 (.gc jN)) (.cons (.fors (.nm 2) (.seq (.var 0)) (.cons (.asg 1 (.call k_plus (.cons (.var 1) (.cons (.var 2) .nil)))) .nil)) (.cons (.ret (.var 1)) .nil)))
    (startD 3 [x]) S (retP Q E) := by
  (refine stepS rfl ?_; (wp_walk using hN, onG_s))
  (refine stepS rfl ?_; (wp_walk using hx))
  refine sum_walk trivial hs (fun t u => [some x, some (frQ t), u]) none (fun t y u K ht hy hK => ⟨_, rfl, ?_⟩) fun u => ?_
  · walk_at "l3 wst"
    refine hp _ _ _ _ _ ht hy ?_
    walk_at "l3 wnl"
    exact hK _
  · walk_at "l3 wst"
    exact ⟨_, le0, h⟩
noncomputable def words5 : List Str := ["flour", "water", "salt", "thirst", "price"]
noncomputable def fwD (nm : D) : List D → D
  | [a, b, c, d, e] => if isNm nm = false then .str "name" else if isMs a = false then .str "flour" else if isMs b = false then .str "water" else if isMs c = false then .str "salt" else if (1 : Rat) < [ratOf a, ratOf b, ratOf c].sum then .str "salt" else if isMs d = false then .str "thirst" else if isMs e = false then .str "price" else .non
  | _ => .non
theorem for_nil {tg : Tg} {b : WSb} {g : Sto → Prop} {fr : Fr} (hg : g S) (h : Po.nx fr S) : forW tg b g [] fr S Po := by
  unfold forW
  exact ⟨hg, h⟩
theorem for_cons {tg : Tg} {b : WSb} {g : Sto → Prop} {d : D} {r : List D} {fr fr2 : Fr} (hg : g S) (hb : bindG tg d fr = some fr2) (h : b fr2 S { nx := fun fr' S' => forW tg b g r fr' S' Po, rt := Po.rt, bk := Po.nx, ct := fun fr' S' => forW tg b g r fr' S' Po, xc := Po.xc }) : forW tg b g (d :: r) fr S Po := by
  unfold forW
  rw [hb]
  exact ⟨hg, h⟩
theorem ne_salt : decide (Str.ofString "flour" = Str.ofString "salt") = false ∧ decide (Str.ofString "water" = Str.ofString "salt") = false ∧ decide (Str.ofString "salt" = Str.ofString "salt") = true ∧ decide (Str.ofString "thirst" = Str.ofString "salt") = false ∧ decide (Str.ofString "price" = Str.ofString "salt") = false := by decide +kernel
theorem first_wrongB {k_is_name k_is_measure k_is_less k_sum_of : Nat} {nm a b c d e : D} {jW jO : Nat} {nW nO : Str} (hn : NamS C k_is_name) (hm : MeaS C k_is_measure) (hl : LesS C k_is_less) (hsu : SumS C k_sum_of)
    (hW : P.gcs[jW]? = some (nW, .tup [.str "flour", .str "water", .str "salt", .str "thirst", .str "price"])) (hO : P.gcs[jO]? = some (nO, .tup [.int 1, .int 1]))
    (t0 : Tyd S nm) (l0 : ∀ t, nm = .str t → t.length ≤ 16000000) (ta : TydP S a) (tb : TydP S b) (tc : TydP S c) (td : TydP S d) (te : TydP S e)
    (sz : ∀ x ∈ [a, b, c], isMs x = true → Sz 900 (ratOf x)) (h : Q (fwD nm [a, b, c, d, e]) S) : wpSs C P none (.cons (.ifs (.nt (.call k_is_name (.cons (.var 0) .nil))) (.cons (.ret (.cst (.str "name"))) .nil) .nil) (.cons (.fors (.tp (.cons (.nm 2) (.cons (.nm 3) .nil))) (.enm (.gc jW)) (.cons (.ifs (.nt (.call k_is_measure (.cons (.idx (.var 1) (.var 2)) .nil))) (.cons (.ret (.var 3)) .nil) .nil) (.cons (.ifs (.conj (.cons (.cmp .eq (.var 3) (.cst (.str "salt"))) (.cons (.call k_is_less (.cons (.gc jO) (.cons (.call k_sum_of (.cons (.slc true (.var 1) false (.cst .non) true (.cst (.int 3))) .nil)) .nil))) .nil))) (.cons (.ret (.var 3)) .nil) .nil) .nil))) (.cons (.ret (.cst .non)) .nil)))
    (startD 4 [nm, .lst [a, b, c, d, e]]) S (retP Q E) := by
  obtain ⟨e1, e2, e3, e4, e5⟩ := ne_salt
  walk_at "l3 wst"
  refine hn _ _ _ _ t0 l0 ?_
  unfold fwD at h
  dsimp only at h
  cases h0 : isNm nm with
  | false =>
    rw [if_pos h0] at h
    walk_at "l3 wxs"
    walk_at "l3 wst"
    exact ⟨_, le0, h⟩
  | true =>
    rw [if_neg (by rw [h0]; decide)] at h
    walk_at "l3 wxs"
    walk_at "l3 wnl"
    (refine stepS rfl ?_; (wp_walk using hW, onG_s))
    refine for_cons trivial rfl ?_
    walk_at "l3 wst"
    refine hm _ _ _ _ ta ?_
    cases h1 : isMs a with
    | false =>
      rw [if_pos h1] at h
      walk_at "l3 wxs"
      walk_at "l3 wst"
      exact ⟨_, le0, h⟩
    | true =>
      rw [if_neg (by rw [h1]; decide)] at h
      walk_at "l3 wxs"
      walk_at "l3 wnl"
      (refine stepS rfl ?_; (wp_walk using e1))
      walk_at "l3 wnl"
      walk_at "l3 wnl"
      refine for_cons trivial rfl ?_
      walk_at "l3 wst"
      refine hm _ _ _ _ tb ?_
      cases h2 : isMs b with
      | false =>
        rw [if_pos h2] at h
        walk_at "l3 wxs"
        walk_at "l3 wst"
        exact ⟨_, le0, h⟩
      | true =>
        rw [if_neg (by rw [h2]; decide)] at h
        walk_at "l3 wxs"
        walk_at "l3 wnl"
        (refine stepS rfl ?_; (wp_walk using e2))
        walk_at "l3 wnl"
        walk_at "l3 wnl"
        refine for_cons trivial rfl ?_
        walk_at "l3 wst"
        refine hm _ _ _ _ tc ?_
        cases h3 : isMs c with
        | false =>
          rw [if_pos h3] at h
          walk_at "l3 wxs"
          walk_at "l3 wst"
          exact ⟨_, le0, h⟩
        | true =>
          rw [if_neg (by rw [h3]; decide)] at h
          have fa := fr_of (by unfold isMs at h1; rw [Bool.and_eq_true] at h1; exact h1.1)
          have fb := fr_of (by unfold isMs at h2; rw [Bool.and_eq_true] at h2; exact h2.1)
          have fc := fr_of (by unfold isMs at h3; rw [Bool.and_eq_true] at h3; exact h3.1)
          have sa := sz a (by simp) h1
          have sb := sz b (by simp) h2
          have sc := sz c (by simp) h3
          walk_at "l3 wxs"
          walk_at "l3 wnl"
          (refine stepS rfl ?_; (wp_walk using e3, hO, onG_s))
          have e6 : [a, b, c] = [ratOf a, ratOf b, ratOf c].map frQ := by
            show [a, b, c] = [frQ (ratOf a), frQ (ratOf b), frQ (ratOf c)]
            rw [← fa, ← fb, ← fc]
          have hsum : SumOk [ratOf a, ratOf b, ratOf c] := SumOk.of ⟨900, fun q hq => by
            simp only [List.mem_cons, List.not_mem_nil, or_false] at hq
            rcases hq with rfl | rfl | rfl
            · exact sa
            · exact sb
            · exact sc, by simp⟩
          refine hsu [ratOf a, ratOf b, ratOf c] _ _ _ _ (by rw [e6]; rfl) hsum ?_
          refine hl 1 _ _ _ _ (Sz.one (by decide)) (hsum.sz.mono (by decide)) ?_
          by_cases h4 : (1 : Rat) < [ratOf a, ratOf b, ratOf c].sum
          · rw [if_pos h4] at h
            rw [decide_eq_true h4]
            walk_at "l3 wxs"
            walk_at "l3 wst"
            exact ⟨_, le0, h⟩
          · rw [if_neg h4] at h
            rw [decide_eq_false h4]
            walk_at "l3 wxs"
            walk_at "l3 wnl"
            walk_at "l3 wnl"
            refine for_cons trivial rfl ?_
            walk_at "l3 wst"
            refine hm _ _ _ _ td ?_
            cases h5 : isMs d with
            | false =>
              rw [if_pos h5] at h
              walk_at "l3 wxs"
              walk_at "l3 wst"
              exact ⟨_, le0, h⟩
            | true =>
              rw [if_neg (by rw [h5]; decide)] at h
              walk_at "l3 wxs"
              walk_at "l3 wnl"
              (refine stepS rfl ?_; (wp_walk using e4))
              walk_at "l3 wnl"
              walk_at "l3 wnl"
              refine for_cons trivial rfl ?_
              walk_at "l3 wst"
              refine hm _ _ _ _ te ?_
              cases h6 : isMs e with
              | false =>
                rw [if_pos h6] at h
                walk_at "l3 wxs"
                walk_at "l3 wst"
                exact ⟨_, le0, h⟩
              | true =>
                rw [if_neg (by rw [h6]; decide)] at h
                walk_at "l3 wxs"
                walk_at "l3 wnl"
                (refine stepS rfl ?_; (wp_walk using e5))
                walk_at "l3 wnl"
                walk_at "l3 wnl"
                refine for_nil trivial ?_
                walk_at "l3 wst"
                exact ⟨_, le0, h⟩
noncomputable abbrev FwrS (C : CallF) (k : Nat) : Prop := ∀ (nm a b c d e : D) (S : Sto) (Q : PoE) (E : PoX), Tyd S nm → (∀ t, nm = .str t → t.length ≤ 16000000) → TydP S a → TydP S b → TydP S c → TydP S d → TydP S e → (∀ x ∈ [a, b, c], isMs x = true → Sz 900 (ratOf x)) → Q (fwD nm [a, b, c, d, e]) S → C k [nm, .lst [a, b, c, d, e]] none S Q E
theorem lk_kept (a b : D) : List.lookup (Str.ofString "kept") ([Str.ofString "called", Str.ofString "kept"].zip [a, b]) = some b := by
  show List.lookup (Str.ofString "kept") [(Str.ofString "called", a), (Str.ofString "kept", b)] = some b
  rw [List.lookup_cons, show (Str.ofString "kept" == Str.ofString "called") = false from by decide +kernel]
  dsimp only
  rw [List.lookup_cons, show (Str.ofString "kept" == Str.ofString "kept") = true from by decide +kernel]
noncomputable def stuD (c : Nat) (nm : D) (ms : List D) : D := .ins c ["called", "kept"] [nm, .tup ms]
theorem stuinitB {k_first_wrong k_or_none x_NoStuff c : Nat} {p : Addr} {nm a1 a2 a3 a4 a5 : D} (ho : OrnS C k_or_none) (hfw : FwrS C k_first_wrong) (hS : S p = some (.ins c [])) (hc1 : (Str.ofString "called") ∈ P.flds c) (hc2 : (Str.ofString "kept") ∈ P.flds c) (hx : P.xfs x_NoStuff = [Str.ofString "field"])
    (t0 : Tyd S nm) (l0 : ∀ t, nm = .str t → t.length ≤ 16000000) (ta : TydP S (orN a1)) (tb : TydP S (orN a2)) (tc : TydP S (orN a3)) (td : TydP S (orN a4)) (te : TydP S (orN a5))
    (sz : ∀ x ∈ [orN a1, orN a2, orN a3], isMs x = true → Sz 900 (ratOf x))
    (h : fwD nm [orN a1, orN a2, orN a3, orN a4, orN a5] = .non → Q .non (S.set p (.ins c [("called", nm), ("kept", .tup [orN a1, orN a2, orN a3, orN a4, orN a5])])))
    (hE : ∀ w, fwD nm [orN a1, orN a2, orN a3, orN a4, orN a5] = .str w → E ⟨.cls x_NoStuff, [("field", .str w)]⟩ S) : wpSs C P none (.cons (.asgc 7 (.comp true (.nm 9) (.seq (.tup (.cons (.var 2) (.cons (.var 3) (.cons (.var 4) (.cons (.var 5) (.cons (.var 6) .nil))))))) .nil (.call k_or_none (.cons (.var 9) .nil)) [9])) (.cons (.asg 8 (.call k_first_wrong (.cons (.var 1) (.cons (.var 7) .nil)))) (.cons (.ifs (.cmp .isnot (.var 8) (.cst .non)) (.cons (.rais x_NoStuff (.cons (.var 8) .nil)) .nil) .nil) (.cons (.fset (.var 0) "called" (.var 1)) (.cons (.fset (.var 0) "kept" (.blt .tuple true (.cons (.var 7) .nil))) .nil)))))
    (startD 10 [.ref p, nm, a1, a2, a3, a4, a5]) S (retP Q E) := by
  walk_at "l3 wst"
  refine comp_cons trivial rfl ?_
  walk_at "l3 wxs"
  refine ho _ _ _ _ ⟨by decide, ?_⟩
  refine comp_cons trivial rfl ?_
  walk_at "l3 wxs"
  refine ho _ _ _ _ ⟨by simp, ?_⟩
  refine comp_cons trivial rfl ?_
  walk_at "l3 wxs"
  refine ho _ _ _ _ ⟨by simp, ?_⟩
  refine comp_cons trivial rfl ?_
  walk_at "l3 wxs"
  refine ho _ _ _ _ ⟨by simp, ?_⟩
  refine comp_cons trivial rfl ?_
  walk_at "l3 wxs"
  refine ho _ _ _ _ ⟨by simp, comp_nil trivial ?_⟩
  walk_at "l3 wst"
  refine hfw _ _ _ _ _ _ _ _ _ t0 l0 ta tb tc td te sz ?_
  generalize orN a1 = b1 at *
  generalize orN a2 = b2 at *
  generalize orN a3 = b3 at *
  generalize orN a4 = b4 at *
  generalize orN a5 = b5 at *
  have cs : fwD nm [b1, b2, b3, b4, b5] = .non ∨ ∃ w, fwD nm [b1, b2, b3, b4, b5] = .str w := by
    unfold fwD
    dsimp only
    repeat' split
    all_goals first | exact .inl rfl | exact .inr ⟨_, rfl⟩
  rcases cs with e | ⟨w, e⟩
  · rw [e]
    walk_at "l3 wst"
    walk_at "l3 wnl"
    refine stepS rfl ?_
    (wp_walk using fset_r hS)
    refine ⟨⟨hc1, by decide⟩, ?_⟩
    refine stepS rfl ?_
    walk_at "l3 wxs"
    rw [fset_r Sto.same, Sto.set_set]
    refine ⟨⟨hc2, by simp [putFD]⟩, ?_⟩
    walk_at "l3 wnl"
    exact ⟨_, le0, h e⟩
  · rw [e]
    walk_at "l3 wst"
    walk_at "l3 wst"
    rw [hx]
    exact ⟨.inr rfl, _, le0, hE w e⟩
theorem r_gidx_of {j : Nat} {n : Str} {ws : List Str} {e : IE} {fr : Fr} {Q : PoE} (hW : P.gcs[j]? = some (n, .tup (ws.map D.str))) : wpE C P ex (.gidx j e) fr S Q E = wpE C P ex e fr S (fun y S1 => onS y fun z => onO (ws.idxOf? z) fun k => Q (.int (k : Nat)) S1) E := by
  simp only [wpE, hW]
  refine congrArg (fun z => wpE C P ex e fr S z E) (funext fun y => funext fun S1 => ?_)
  unfold onS onO
  cases y <;> try rfl
  rename_i z
  dsimp only
  rw [strsOf_map]
  dsimp only
  cases ws.idxOf? z <;> rfl
theorem stumeasB {c x_NoName : Nat} {nm d : D} {ms : List D} {jW : Nat} {nW : Str} {z : Str} {i : Nat} (hW : P.gcs[jW]? = some (nW, .tup (words5.map D.str))) (hc : (Str.ofString "kept") ∈ P.flds c) (hz : words5.idxOf? z = some i) (hi : ms[i]? = some d) (h : Q d S) : wpSs C P none (.cons (.ifs (.disj (.cons (.nt (.blt .isi true (.cons (.var 1) (.cons (.tyv "str") .nil)))) (.cons (.cmp .notin (.var 1) (.gc jW)) .nil))) (.cons (.rais x_NoName (.cons (.var 1) .nil)) .nil) .nil) (.cons (.ret (.idx (.fld (.var 0) "kept") (.gidx jW (.var 1)))) .nil))
    (startD 2 [stuD c nm ms, .str z]) S (retP Q E) := by
  unfold stuD
  have hm : z ∈ words5 := by
    refine Classical.byContradiction fun hh => ?_
    rw [List.idxOf?_eq_none_iff.mpr hh] at hz
    cases hz
  refine stepS rfl ?_
  (wp_walk using c_notin, hW, onG_s)
  refine in_seq rfl rfl (plain_strs words5) ?_
  rw [show topD S (D.str z) = .str z from rfl, any_str, decide_eq_true hm]
  walk_at "l3 wxs"
  walk_at "l3 wnl"
  refine stepS rfl ?_
  (wp_walk using r_gidx_of hW)
  refine ⟨hc, ?_⟩
  rw [hz, lk_kept, onO_s, onO_s, idx_tup, atI_nat, hi]
  exact ⟨S, le0, h⟩
theorem len_app (x y : Str) : (x ++ y).length = x.length + y.length := by rw [len_of_tl, TL.tl_append, List.length_append, ← len_of_tl, ← len_of_tl]
noncomputable abbrev NmeS (C : CallF) (k : Nat) : Prop := ∀ (p : Addr) (o : O) (tk : D) (taken : List Str) (S : Sto) (Q : PoE) (E : PoX), S p = some o → PotO o → (∀ o', sv (S.set p o') tk = some (taken.map D.str)) → taken.length ≤ 25 → (∀ t o', NmOk t → t ∉ taken → PotO o' → Q (.str t) (S.set p o')) → C k [.ref p, tk] none S Q E
noncomputable abbrev StiS (C : CallF) (k c x : Nat) : Prop := ∀ (p : Addr) (nm a1 a2 a3 a4 a5 : D) (S : Sto) (Q : PoE) (E : PoX), S p = some (.ins c []) → Tyd S nm → (∀ t, nm = .str t → t.length ≤ 16000000) → TydP S (orN a1) → TydP S (orN a2) → TydP S (orN a3) → TydP S (orN a4) → TydP S (orN a5) →
    (∀ x ∈ [orN a1, orN a2, orN a3], isMs x = true → Sz 900 (ratOf x)) →
    (fwD nm [orN a1, orN a2, orN a3, orN a4, orN a5] = .non → Q .non (S.set p (.ins c [("called", nm), ("kept", .tup [orN a1, orN a2, orN a3, orN a4, orN a5])]))) →
    (∀ w, fwD nm [orN a1, orN a2, orN a3, orN a4, orN a5] = .str w → E ⟨.cls x, [("field", .str w)]⟩ S) → C k [.ref p, nm, a1, a2, a3, a4, a5] none S Q E
noncomputable abbrev StmS (C : CallF) (k c : Nat) : Prop := ∀ (nm d : D) (ms : List D) (z : Str) (i : Nat) (S : Sto) (Q : PoE) (E : PoX), words5.idxOf? z = some i → ms[i]? = some d → Q d S → C k [stuD c nm ms, .str z] none S Q E
theorem fwD_ok {e : Nat} {t : Str} {f w s th pr : Rat} (h : StOk e t f w s th pr) : fwD (.str t) [frQ f, frQ w, frQ s, frQ th, frQ pr] = .non := by
  have ms : ∀ q : Rat, 0 ≤ q → isMs (frQ q) = true := fun q hq => by
    unfold isMs
    rw [isFr_frQ, ratOf_frQ, decide_eq_true hq]
    rfl
  unfold fwD
  dsimp only
  rw [if_neg (by rw [show isNm (.str t) = decide (NmOk t) from rfl, decide_eq_true h.nm]; decide), if_neg (by rw [ms f h.hf.nn]; decide), if_neg (by rw [ms w h.hw.nn]; decide), if_neg (by rw [ms s h.hs.nn]; decide)]
  rw [if_neg (by
    rw [ratOf_frQ, ratOf_frQ, ratOf_frQ]
    simp only [List.sum_cons, List.sum_nil]
    have := h.le
    grind), if_neg (by rw [ms th h.hth.nn]; decide), if_neg (by rw [ms pr h.hpr.nn]; decide)]
theorem frz_new {p : Addr} {o : O} (hp : S p = none) : frzK (.ref p) (S.set p o) Q = Q (frzO o) S := by
  unfold frzK
  simp only [Sto.same]
  rw [Sto.del_set hp]
theorem mkStuB {k c x e : Nat} {t : Str} {f w s th pr : Rat} {b1 b2 b3 b4 b5 : D} (hi : StiS C k c x) (ok : StOk e t f w s th pr) (he : e ≤ 900) (h1 : orN b1 = frQ f) (h2 : orN b2 = frQ w) (h3 : orN b3 = frQ s) (h4 : orN b4 = frQ th) (h5 : orN b5 = frQ pr)
    (h : Q (stuD c (.str t) [frQ f, frQ w, frQ s, frQ th, frQ pr]) S) : ∀ p, S p = none → C k [.ref p, .str t, b1, b2, b3, b4, b5] none (S.set p (.ins c [])) (fun r S3 => r = .non ∧ frzK (.ref p) S3 Q) E := by
  intro p hp
  have ty : ∀ q : Rat, TydP (S.set p (.ins c [])) (frQ q) := fun q => ⟨⟨_, rfl⟩, ⟨_, rfl⟩⟩
  refine hi p (.str t) b1 b2 b3 b4 b5 _ _ _ Sto.same ⟨_, rfl⟩ (fun z hz => by cases hz; have := ok.nm.1.2; rw [len_of_tl]; omega) (by rw [h1]; exact ty _) (by rw [h2]; exact ty _) (by rw [h3]; exact ty _) (by rw [h4]; exact ty _) (by rw [h5]; exact ty _) ?_ ?_ ?_
  · intro y hy _
    rw [h1, h2, h3] at hy
    simp only [List.mem_cons, List.not_mem_nil, or_false] at hy
    rcases hy with rfl | rfl | rfl
    · rw [ratOf_frQ]; exact ok.hf.sz.mono he
    · rw [ratOf_frQ]; exact ok.hw.sz.mono he
    · rw [ratOf_frQ]; exact ok.hs.sz.mono he
  · intro _
    refine ⟨rfl, ?_⟩
    rw [Sto.set_set, frz_new hp, h1, h2, h3, h4, h5]
    exact h
  · intro z hz
    rw [h1, h2, h3, h4, h5, fwD_ok ok] at hz
    cases hz
theorem iv_stu {c : Nat} {nm : D} {ms : List D} : iv S (stuD c nm ms) = some (c, [(Str.ofString "called", nm), (Str.ofString "kept", .tup ms)]) := rfl
end
end L4

namespace L4
open PySem
local macro_rules | `(tactic| wp_walk using $ls:term,*) => `(tactic| simp only [r_var, r_cst, r_fnv, r_clv, r_tyv, r_gc, r_bin, r_neg, r_nt, r_cmp, r_conj, r_disj, r_ite, r_tup, r_lst, r_dsp0, r_dsp, r_idx, r_fld, r_call, r_callk, r_callv, r_make, r_mcl, r_blt, r_comp, r_fst, r_frz, r_met, r_rvs, r_slc00, r_slc10, r_slc01, r_slc11, r_chain, r_conj1, r_conj2, r_disj1, r_disj2, r_ts0, r_ts1, r_es0, r_es1, r_asg, r_asgc, r_par, r_asgt, r_sub, r_fset, r_exp, r_ret, r_retn, r_ifs, r_fors, r_whil, r_rais, r_pass, r_frzs, r_tryo, r_anm, r_asub, r_as0, r_as1, r_rng1, r_seq, r_txt, r_rev, onB_t, onB_f, onB_n, onI_i, onS_s, onT_t, onR_r, onV_s, onF_f, onO_s, onG_s, sv_t, sv_l, wk_t, wk_l, wk_s, newL_t, newL_f, bin_add, bin_cat, bin_catT, bin_catL, bin_sub, bin_mul, bin_repL, bin_mod, bin_fdiv, bin_pow, c_eq_i, c_eq_s, c_eq_b, c_ne_i, c_ne_s, c_ne_b, c_lt, c_lt_s, c_le, c_gt, c_ge, c_is, c_isnot, idx_tup, idx_lst, idx_scr, atI_0, atI_1, atI_2, atI_3, atI_4, atI_5, atI_6, atI_nat, b_len_tup, b_len_lst, b_len_scr, b_len_str, b_len_dct, b_abs, b_int, b_int_bl, b_max, b_min, b_divmod, b_str_i, b_str_s, b_all, b_any, b_sum, b_list_l, b_list_t, b_tuple_l, wpF, bindG, bindGs, ITs.len, IEs.len, pick, startD, L4.Po.behind, id_eq, Sto.same, Sto.set_set, List.map_cons, List.map_nil, List.length_cons, List.length_nil, List.getElem?_cons_zero, List.getElem?_cons_succ, List.set_cons_zero, List.set_cons_succ, List.replicate, List.cons_append, List.nil_append, List.append_nil, List.filterMap_cons, List.filterMap_nil, Nat.reduceAdd, Nat.reduceSub, Nat.reduceLeDiff, Nat.reduceEqDiff, Int.reduceToNat, Int.reducePow, Int.reduceMul, Int.reduceSub, Int.reduceAdd, Int.reduceNeg, Int.reduceLE, Int.reduceLT, true_and, and_true, decide_true, decide_false, Bool.not_true, Bool.not_false, reduceCtorEq, ne_eq, not_false_eq_true, r_oeq, r_osp, r_cllx, r_ocmp, r_enm, r_zip, zk_tt, zk_ll, r_rng2, r_dct, dk_d, dk_d2, wk_map, c_isb, c_isnotb, oe_int, oe_str, oe_bl, oe_non, oe_tup, oe_lst, oe_ins, os_rep, os_len, eqOk_non, eqOk_int, eqOk_bl, eqOk_str, eqOk_tup, eqOk_lst, eqOk_ins, sl_tup, sl_str, sl_lst, iv_i, fld_i, b_isi, cl_int, cl_bool, cl_str, cl_list, cl_tuple, cl_dict, cl_lt, is_non, is_int, is_bl, is_str, is_tup, is_lst, is_dct, isT, isSub, List.any_cons, List.any_nil, Bool.or_false, Bool.false_or, Bool.or_true, Bool.true_or, Bool.and_true, Bool.true_and, Bool.and_false, Bool.false_and, String.reduceBEq, wkV_g, wkV_ds, wkV_bk, idx_str, m_join, ty_str, wipeD, List.foldl_cons, List.foldl_nil, ix_q0, ix_q1, isNo_non, isNo_int, isNo_str, isNo_bl, isNo_tup, isNo_lst, isNo_ref, isNo_ins, isNo_dct, isNo_frQ, bin_repT, cutL_to, cutL_from, cutL_both, cutN_to, cutN_from, cutN_both, List.take_succ_cons, List.take_zero, List.drop_succ_cons, List.drop_zero, List.take_nil, List.drop_nil, ky_nil, ky_str, ky_tup, ky_lst, ky_non, ky_ins, ky_1, ky_3, ky_q, Bool.true_beq, Bool.false_beq, bin_repS, r_frzo, $[$ls:term],*])
local macro_rules | `(tactic| walk_at "l3 wxs") => `(tactic| simp only [r_var, r_cst, r_fnv, r_clv, r_tyv, r_gc, r_bin, r_neg, r_nt, r_cmp, r_conj, r_disj, r_ite, r_tup, r_lst, r_dsp0, r_dsp, r_idx, r_fld, r_call, r_callk, r_callv, r_make, r_mcl, r_blt, r_comp, r_fst, r_frz, r_met, r_rvs, r_slc00, r_slc10, r_slc01, r_slc11, r_chain, r_conj1, r_conj2, r_disj1, r_disj2, r_ts0, r_ts1, r_es0, r_es1, r_asg, r_asgc, r_par, r_asgt, r_sub, r_fset, r_exp, r_ret, r_retn, r_ifs, r_fors, r_whil, r_rais, r_pass, r_frzs, r_tryo, r_anm, r_asub, r_as0, r_as1, r_rng1, r_seq, r_txt, r_rev, onB_t, onB_f, onB_n, onI_i, onS_s, onT_t, onR_r, onV_s, onF_f, onO_s, onG_s, sv_t, sv_l, wk_t, wk_l, wk_s, newL_t, newL_f, bin_add, bin_cat, bin_catT, bin_catL, bin_sub, bin_mul, bin_repL, bin_mod, bin_fdiv, bin_pow, c_eq_i, c_eq_s, c_eq_b, c_ne_i, c_ne_s, c_ne_b, c_lt, c_lt_s, c_le, c_gt, c_ge, c_is, c_isnot, idx_tup, idx_lst, idx_scr, atI_0, atI_1, atI_2, atI_3, atI_4, atI_5, atI_6, atI_nat, b_len_tup, b_len_lst, b_len_scr, b_len_str, b_len_dct, b_abs, b_int, b_int_bl, b_max, b_min, b_divmod, b_str_i, b_str_s, b_all, b_any, b_sum, b_list_l, b_list_t, b_tuple_l, wpF, bindG, bindGs, ITs.len, IEs.len, pick, startD, L4.Po.behind, id_eq, Sto.same, Sto.set_set, List.map_cons, List.map_nil, List.length_cons, List.length_nil, List.getElem?_cons_zero, List.getElem?_cons_succ, List.set_cons_zero, List.set_cons_succ, List.replicate, List.cons_append, List.nil_append, List.append_nil, List.filterMap_cons, List.filterMap_nil, Nat.reduceAdd, Nat.reduceSub, Nat.reduceLeDiff, Nat.reduceEqDiff, Int.reduceToNat, Int.reducePow, Int.reduceMul, Int.reduceSub, Int.reduceAdd, Int.reduceNeg, Int.reduceLE, Int.reduceLT, true_and, and_true, decide_true, decide_false, Bool.not_true, Bool.not_false, reduceCtorEq, ne_eq, not_false_eq_true, r_oeq, r_osp, r_cllx, r_ocmp, r_enm, r_zip, zk_tt, zk_ll, r_rng2, r_dct, dk_d, dk_d2, wk_map, c_isb, c_isnotb, oe_int, oe_str, oe_bl, oe_non, oe_tup, oe_lst, oe_ins, os_rep, os_len, eqOk_non, eqOk_int, eqOk_bl, eqOk_str, eqOk_tup, eqOk_lst, eqOk_ins, sl_tup, sl_str, sl_lst, iv_i, fld_i, b_isi, cl_int, cl_bool, cl_str, cl_list, cl_tuple, cl_dict, cl_lt, is_non, is_int, is_bl, is_str, is_tup, is_lst, is_dct, isT, isSub, List.any_cons, List.any_nil, Bool.or_false, Bool.false_or, Bool.or_true, Bool.true_or, Bool.and_true, Bool.true_and, Bool.and_false, Bool.false_and, String.reduceBEq, wkV_g, wkV_ds, wkV_bk, idx_str, m_join, ty_str, wipeD, List.foldl_cons, List.foldl_nil, ix_q0, ix_q1, isNo_non, isNo_int, isNo_str, isNo_bl, isNo_tup, isNo_lst, isNo_ref, isNo_ins, isNo_dct, isNo_frQ, bin_repT, cutL_to, cutL_from, cutL_both, cutN_to, cutN_from, cutN_both, List.take_succ_cons, List.take_zero, List.drop_succ_cons, List.drop_zero, List.take_nil, List.drop_nil, ky_nil, ky_str, ky_tup, ky_lst, ky_non, ky_ins, ky_1, ky_3, ky_q, Bool.true_beq, Bool.false_beq, bin_repS, r_frzo])
local macro_rules | `(tactic| walk_at "l3 wst") => `(tactic| (refine stepS rfl ?_; walk_at "l3 wxs"))
local macro_rules | `(tactic| walk_at "l3 wnl") => `(tactic| (refine nilS rfl ?_; (try walk_at "l3 wxs")))
open scoped Rat

noncomputable def shB : Nat → Nat
  | 0 => 2000
  | k + 1 => 3 + 14 * (shB k + 2)

noncomputable def ShN (k : Nat) (x : D) : Prop := Sh x (shB k) (k + 1)
theorem shB_up (k : Nat) : shB k ≤ shB (k + 1) := by
  show _ ≤ 3 + 14 * (shB k + 2)
  omega
section
variable {k : Nat} {x : D} {xs : List D}
theorem ShN.up (h : ShN k x) : ShN (k + 1) x := Sh.mono h (shB_up k) (by omega)
theorem shB_0 : ∀ k, 2000 ≤ shB k
  | 0 => Nat.le_refl _
  | k + 1 => Nat.le_trans (shB_0 k) (shB_up k)
theorem shn_int {i : Int} (h : i.natAbs < 2 ^ 1900) : ShN k (.int i) := (sh_int h).mono (Nat.le_trans (by decide) (shB_0 k)) (by omega)
theorem shn_bl {b : Bool} : ShN k (.bl b) := sh_bl.mono (Nat.le_trans (by decide) (shB_0 k)) (by omega)
theorem shn_non : ShN k .non := sh_non.mono (Nat.le_trans (by decide) (shB_0 k)) (by omega)
theorem shn_str {t : Str} (h : ∀ c ∈ TL.tl t, c < 16 ^ 8) (hl : t.length ≤ 199) : ShN k (.str t) := (sh_str h).mono (Nat.le_trans (by omega) (shB_0 k)) (by omega)
theorem str_ok (s : String) : ∀ c ∈ TL.tl (Str.ofString s), c < 16 ^ 8 := by
  intro c hc
  have hc : c ∈ (Str.ofString s).cps.toList := hc
  rw [Str.ofString_eq_toList] at hc
  have hc : c ∈ s.toList.map Char.toNat := by simpa using hc
  obtain ⟨d, _, rfl⟩ := List.mem_map.mp hc
  have h1 : d.toNat < 4294967296 := UInt32.toNat_lt d.val
  have h2 : (16 : Nat) ^ 8 = 4294967296 := by decide
  omega
theorem shn_itxt {i : Int} (h : i.natAbs < 2 ^ 190) : ShN k (.str (toString i)) := shn_str (str_ok _) (by
  show (Str.ofString (toString i)).length ≤ 199
  rw [PySem.ofString_length]
  refine Nat.le_trans (PySem.int_text_length_le (k := 190) (by decide) ?_) (by decide)
  rcases Nat.eq_zero_or_pos i.natAbs with h0 | h0
  · rw [h0]; decide
  · exact (Nat.log2_lt (by omega)).mpr h)
theorem shn_tup (hl : xs.length ≤ 14) (h : ∀ x ∈ xs, ShN k x) : ShN (k + 1) (.tup xs) := (sh_tup h).mono (by
  show _ ≤ 3 + 14 * (shB k + 2)
  have := Nat.mul_le_mul_right (shB k + 2) hl
  omega) (Nat.le_refl _)
theorem shn_lst (hl : xs.length ≤ 14) (h : ∀ x ∈ xs, ShN k x) : ShN (k + 1) (.lst xs) := (sh_lst h).mono (by
  show _ ≤ 3 + 14 * (shB k + 2)
  have := Nat.mul_le_mul_right (shB k + 2) hl
  omega) (Nat.le_refl _)
end

noncomputable def keyP : L2.Key → PyData
  | .inl i => .int i
  | .inr x => .str x
theorem kv_show : ∀ {kvs : List (PyData × PyData)} {B d : Nat}, (∀ p ∈ kvs, Tell p.1 B d ∧ Tell p.2 B d) → PyData.showableKv kvs = true ∧ PyData.depthKv kvs ≤ d ∧ ((PyData.shownKv kvs).map (·.length)).sum ≤ kvs.length * (2 * B + 2) ∧ (PyData.shownKv kvs).length = kvs.length
  | [], B, d, h => by
    unfold PyData.showableKv PyData.depthKv PyData.shownKv
    exact ⟨rfl, Nat.zero_le _, Nat.zero_le _, rfl⟩
  | (k, v) :: xs, B, d, h => by
    obtain ⟨h1, h3, h4, h5⟩ := kv_show (kvs := xs) fun y hy => h y (List.mem_cons_of_mem _ hy)
    obtain ⟨t1, t2⟩ := h (k, v) (List.mem_cons_self ..)
    unfold PyData.showableKv PyData.depthKv PyData.shownKv
    refine ⟨by rw [t1.sh, t2.sh, h1]; rfl, ?_, ?_, by rw [List.length_cons, List.length_cons, h5]⟩
    · have a := t1.dp
      have b := t2.dp
      simp only at a b
      omega
    · rw [List.map_cons, List.sum_cons, List.length_cons, Nat.succ_mul, strLen_append, strLen_append]
      have a := t1.ln
      have b := t2.ln
      have c : ((": " : String) : Str).length = 2 := rfl
      simp only at a b
      omega
theorem sh_dct {ks : List L2.Key} {vs : List D} {B d : Nat} (hl : ks.length = vs.length) (hk : ∀ k ∈ ks, Tell (keyP k) B d) (h : ∀ x ∈ vs, Sh x B d) : Sh (.dct ks vs) (3 + ks.length * (2 * B + 4)) (d + 1) := by
  obtain ⟨ps, e, hp, t⟩ := pyDs_all h
  have hz : (ks.map keyP).length = ps.length := by rw [List.length_map, hp, hl]
  refine ⟨.dict ((ks.map keyP).zip ps), by unfold pyD; rw [e]; rfl, ?_⟩
  obtain ⟨h1, h3, h4, h5⟩ := kv_show (kvs := (ks.map keyP).zip ps) (B := B) (d := d) fun p hp => by
    obtain ⟨p1, p2⟩ := p
    have q1 := (List.of_mem_zip hp).1
    have q2 := (List.of_mem_zip hp).2
    obtain ⟨k, hk1, rfl⟩ := List.mem_map.mp q1
    exact ⟨hk k hk1, t _ q2⟩
  have hlz : ((ks.map keyP).zip ps).length = ks.length := by rw [List.length_zip, hz, Nat.min_self, hp, hl]
  refine ⟨by unfold PyData.showable; exact h1, by unfold PyData.depth; omega, ?_⟩
  unfold PyData.shown
  have := dictText_len_le (PyData.shownKv ((ks.map keyP).zip ps))
  rw [hlz] at h4 h5
  have e2 : ks.length * (2 * B + 4) = ks.length * (2 * B + 2) + 2 * ks.length := by
    rw [show 2 * B + 4 = (2 * B + 2) + 2 by omega, Nat.mul_add, Nat.mul_comm 2 ks.length]
  omega
theorem shn_dct {ks : List L2.Key} {vs : List D} {k : Nat} (hn : ks.length ≤ 6) (hl : ks.length = vs.length) (hk : ∀ x ∈ ks, Tell (keyP x) (shB k) (k + 1)) (h : ∀ x ∈ vs, ShN k x) : ShN (k + 1) (.dct ks vs) := (sh_dct hl hk h).mono (by
  show _ ≤ 3 + 14 * (shB k + 2)
  have := Nat.mul_le_mul_right (2 * shB k + 4) hn
  omega) (Nat.le_refl _)
theorem tell_key {x : L2.Key} {k : Nat} (h : match x with
    | .inl i => i.natAbs < 2 ^ 1900
    | .inr t => (∀ c ∈ TL.tl t, c < 16 ^ 8) ∧ t.length ≤ 199) : Tell (keyP x) (shB k) (k + 1) := by
  have := shB_0 k
  cases x with
  | inl i => exact (tell_int h).mono (by omega) (by omega)
  | inr t =>
    have h2 := h.2
    exact (tell_str_le h.1).mono (by omega) (by omega)

noncomputable def tyOk : D → Bool
  | .non => true
  | .bl _ => true
  | .int _ => true
  | .str _ => true
  | .tup _ => true
  | .lst _ => true
  | .dct _ _ => true
  | _ => false
noncomputable def tyOkP : D → Bool
  | .tup [a, b] => tyOk a && tyOk b
  | x => tyOk x
section
variable {C : CallF} {P : Pg} {ex : Option Exc} {S : Sto} {Q : PoE} {E : PoX} {Po : L4.Po}
theorem newO_frz {o : O} {K : PoE} (h : K (frzO o) S) : newO o S fun x S1 => frzK x S1 K := by
  intro p hp
  show frzK (.ref p) (S.set p o) _
  rw [frz_new hp]
  exact h
theorem cut_sub {α : Type} {xs : List α} {lo hi : Option Int} : (cutD xs lo hi).Sublist xs := (List.take_sublist _ _).trans (List.drop_sublist _ _)

noncomputable def TxOk (m : Nat) (t : Str) : Prop := (∀ c ∈ TL.tl t, c < 1000) ∧ (TL.tl t).length ≤ m
theorem TxOk.cut {m : Nat} {t : Str} {lo hi : Option Int} (h : TxOk m t) : TxOk m (L2.cutS t lo hi) := by
  unfold TxOk
  rw [tl_cut]
  exact ⟨fun c hc => h.1 c (cut_sub.subset hc), Nat.le_trans cut_sub.length_le h.2⟩
theorem TxOk.ln {m : Nat} {t : Str} (h : TxOk m t) : t.length ≤ m := by rw [len_of_tl]; exact h.2
theorem TxOk.line {m : Nat} {t : Str} (h : TxOk m t) (hm : m ≤ 16000000) : Line t.length := Nat.le_trans h.ln hm
theorem tyd_of {x : D} (h : tyOk x = true) : Tyd S x := by
  cases x <;> first | exact ⟨_, rfl⟩ | cases h
theorem tydP_of {x : D} (h : tyOkP x = true) : TydP S x := by
  unfold TydP
  split
  · have h : (tyOk _ && tyOk _) = true := h
    simp only [Bool.and_eq_true] at h
    exact ⟨tyd_of h.1, tyd_of h.2⟩
  · rename_i hn
    refine tyd_of ?_
    unfold tyOkP at h
    split at h
    · exact absurd rfl (hn _ _)
    · exact h
end
end L4

namespace L4
open PySem
local macro_rules | `(tactic| wp_walk using $ls:term,*) => `(tactic| simp only [r_var, r_cst, r_fnv, r_clv, r_tyv, r_gc, r_bin, r_neg, r_nt, r_cmp, r_conj, r_disj, r_ite, r_tup, r_lst, r_dsp0, r_dsp, r_idx, r_fld, r_call, r_callk, r_callv, r_make, r_mcl, r_blt, r_comp, r_fst, r_frz, r_met, r_rvs, r_slc00, r_slc10, r_slc01, r_slc11, r_chain, r_conj1, r_conj2, r_disj1, r_disj2, r_ts0, r_ts1, r_es0, r_es1, r_asg, r_asgc, r_par, r_asgt, r_sub, r_fset, r_exp, r_ret, r_retn, r_ifs, r_fors, r_whil, r_rais, r_pass, r_frzs, r_tryo, r_anm, r_asub, r_as0, r_as1, r_rng1, r_seq, r_txt, r_rev, onB_t, onB_f, onB_n, onI_i, onS_s, onT_t, onR_r, onV_s, onF_f, onO_s, onG_s, sv_t, sv_l, wk_t, wk_l, wk_s, newL_t, newL_f, bin_add, bin_cat, bin_catT, bin_catL, bin_sub, bin_mul, bin_repL, bin_mod, bin_fdiv, bin_pow, c_eq_i, c_eq_s, c_eq_b, c_ne_i, c_ne_s, c_ne_b, c_lt, c_lt_s, c_le, c_gt, c_ge, c_is, c_isnot, idx_tup, idx_lst, idx_scr, atI_0, atI_1, atI_2, atI_3, atI_4, atI_5, atI_6, atI_nat, b_len_tup, b_len_lst, b_len_scr, b_len_str, b_len_dct, b_abs, b_int, b_int_bl, b_max, b_min, b_divmod, b_str_i, b_str_s, b_all, b_any, b_sum, b_list_l, b_list_t, b_tuple_l, wpF, bindG, bindGs, ITs.len, IEs.len, pick, startD, L4.Po.behind, id_eq, Sto.same, Sto.set_set, List.map_cons, List.map_nil, List.length_cons, List.length_nil, List.getElem?_cons_zero, List.getElem?_cons_succ, List.set_cons_zero, List.set_cons_succ, List.replicate, List.cons_append, List.nil_append, List.append_nil, List.filterMap_cons, List.filterMap_nil, Nat.reduceAdd, Nat.reduceSub, Nat.reduceLeDiff, Nat.reduceEqDiff, Int.reduceToNat, Int.reducePow, Int.reduceMul, Int.reduceSub, Int.reduceAdd, Int.reduceNeg, Int.reduceLE, Int.reduceLT, true_and, and_true, decide_true, decide_false, Bool.not_true, Bool.not_false, reduceCtorEq, ne_eq, not_false_eq_true, r_oeq, r_osp, r_cllx, r_ocmp, r_enm, r_zip, zk_tt, zk_ll, r_rng2, r_dct, dk_d, dk_d2, wk_map, c_isb, c_isnotb, oe_int, oe_str, oe_bl, oe_non, oe_tup, oe_lst, oe_ins, os_rep, os_len, eqOk_non, eqOk_int, eqOk_bl, eqOk_str, eqOk_tup, eqOk_lst, eqOk_ins, sl_tup, sl_str, sl_lst, iv_i, fld_i, b_isi, cl_int, cl_bool, cl_str, cl_list, cl_tuple, cl_dict, cl_lt, is_non, is_int, is_bl, is_str, is_tup, is_lst, is_dct, isT, isSub, List.any_cons, List.any_nil, Bool.or_false, Bool.false_or, Bool.or_true, Bool.true_or, Bool.and_true, Bool.true_and, Bool.and_false, Bool.false_and, String.reduceBEq, wkV_g, wkV_ds, wkV_bk, idx_str, m_join, ty_str, wipeD, List.foldl_cons, List.foldl_nil, ix_q0, ix_q1, isNo_non, isNo_int, isNo_str, isNo_bl, isNo_tup, isNo_lst, isNo_ref, isNo_ins, isNo_dct, isNo_frQ, bin_repT, cutL_to, cutL_from, cutL_both, cutN_to, cutN_from, cutN_both, List.take_succ_cons, List.take_zero, List.drop_succ_cons, List.drop_zero, List.take_nil, List.drop_nil, ky_nil, ky_str, ky_tup, ky_lst, ky_non, ky_ins, ky_1, ky_3, ky_q, Bool.true_beq, Bool.false_beq, bin_repS, r_frzo, $[$ls:term],*])
local macro_rules | `(tactic| walk_at "l3 wxs") => `(tactic| simp only [r_var, r_cst, r_fnv, r_clv, r_tyv, r_gc, r_bin, r_neg, r_nt, r_cmp, r_conj, r_disj, r_ite, r_tup, r_lst, r_dsp0, r_dsp, r_idx, r_fld, r_call, r_callk, r_callv, r_make, r_mcl, r_blt, r_comp, r_fst, r_frz, r_met, r_rvs, r_slc00, r_slc10, r_slc01, r_slc11, r_chain, r_conj1, r_conj2, r_disj1, r_disj2, r_ts0, r_ts1, r_es0, r_es1, r_asg, r_asgc, r_par, r_asgt, r_sub, r_fset, r_exp, r_ret, r_retn, r_ifs, r_fors, r_whil, r_rais, r_pass, r_frzs, r_tryo, r_anm, r_asub, r_as0, r_as1, r_rng1, r_seq, r_txt, r_rev, onB_t, onB_f, onB_n, onI_i, onS_s, onT_t, onR_r, onV_s, onF_f, onO_s, onG_s, sv_t, sv_l, wk_t, wk_l, wk_s, newL_t, newL_f, bin_add, bin_cat, bin_catT, bin_catL, bin_sub, bin_mul, bin_repL, bin_mod, bin_fdiv, bin_pow, c_eq_i, c_eq_s, c_eq_b, c_ne_i, c_ne_s, c_ne_b, c_lt, c_lt_s, c_le, c_gt, c_ge, c_is, c_isnot, idx_tup, idx_lst, idx_scr, atI_0, atI_1, atI_2, atI_3, atI_4, atI_5, atI_6, atI_nat, b_len_tup, b_len_lst, b_len_scr, b_len_str, b_len_dct, b_abs, b_int, b_int_bl, b_max, b_min, b_divmod, b_str_i, b_str_s, b_all, b_any, b_sum, b_list_l, b_list_t, b_tuple_l, wpF, bindG, bindGs, ITs.len, IEs.len, pick, startD, L4.Po.behind, id_eq, Sto.same, Sto.set_set, List.map_cons, List.map_nil, List.length_cons, List.length_nil, List.getElem?_cons_zero, List.getElem?_cons_succ, List.set_cons_zero, List.set_cons_succ, List.replicate, List.cons_append, List.nil_append, List.append_nil, List.filterMap_cons, List.filterMap_nil, Nat.reduceAdd, Nat.reduceSub, Nat.reduceLeDiff, Nat.reduceEqDiff, Int.reduceToNat, Int.reducePow, Int.reduceMul, Int.reduceSub, Int.reduceAdd, Int.reduceNeg, Int.reduceLE, Int.reduceLT, true_and, and_true, decide_true, decide_false, Bool.not_true, Bool.not_false, reduceCtorEq, ne_eq, not_false_eq_true, r_oeq, r_osp, r_cllx, r_ocmp, r_enm, r_zip, zk_tt, zk_ll, r_rng2, r_dct, dk_d, dk_d2, wk_map, c_isb, c_isnotb, oe_int, oe_str, oe_bl, oe_non, oe_tup, oe_lst, oe_ins, os_rep, os_len, eqOk_non, eqOk_int, eqOk_bl, eqOk_str, eqOk_tup, eqOk_lst, eqOk_ins, sl_tup, sl_str, sl_lst, iv_i, fld_i, b_isi, cl_int, cl_bool, cl_str, cl_list, cl_tuple, cl_dict, cl_lt, is_non, is_int, is_bl, is_str, is_tup, is_lst, is_dct, isT, isSub, List.any_cons, List.any_nil, Bool.or_false, Bool.false_or, Bool.or_true, Bool.true_or, Bool.and_true, Bool.true_and, Bool.and_false, Bool.false_and, String.reduceBEq, wkV_g, wkV_ds, wkV_bk, idx_str, m_join, ty_str, wipeD, List.foldl_cons, List.foldl_nil, ix_q0, ix_q1, isNo_non, isNo_int, isNo_str, isNo_bl, isNo_tup, isNo_lst, isNo_ref, isNo_ins, isNo_dct, isNo_frQ, bin_repT, cutL_to, cutL_from, cutL_both, cutN_to, cutN_from, cutN_both, List.take_succ_cons, List.take_zero, List.drop_succ_cons, List.drop_zero, List.take_nil, List.drop_nil, ky_nil, ky_str, ky_tup, ky_lst, ky_non, ky_ins, ky_1, ky_3, ky_q, Bool.true_beq, Bool.false_beq, bin_repS, r_frzo])
local macro_rules | `(tactic| walk_at "l3 wst") => `(tactic| (refine stepS rfl ?_; walk_at "l3 wxs"))
local macro_rules | `(tactic| walk_at "l3 wnl") => `(tactic| (refine nilS rfl ?_; (try walk_at "l3 wxs")))
local macro_rules | `(tactic| walk_at "l3 shw") => `(tactic| repeat' (first | assumption | exact shn_bl | exact shn_non | exact shn_int (by assumption) | exact shn_itxt (by assumption) | exact List.forall_mem_nil _ | refine List.forall_mem_cons.mpr (And.intro ?_ ?_) | refine shn_tup (Nat.le_of_ble_eq_true rfl) ?_ | refine shn_lst (Nat.le_of_ble_eq_true rfl) ?_ | refine shn_dct (Nat.le_of_ble_eq_true rfl) rfl ?_ ?_ | exact tell_key (by assumption)))
open scoped Rat

section
variable {C : CallF} {P : Pg} {ex : Option Exc} {S : Sto} {Q : PoE} {E : PoX} {Po : L4.Po}
end
end L4

namespace L4
open PySem
local macro_rules | `(tactic| wp_walk using $ls:term,*) => `(tactic| simp only [r_var, r_cst, r_fnv, r_clv, r_tyv, r_gc, r_bin, r_neg, r_nt, r_cmp, r_conj, r_disj, r_ite, r_tup, r_lst, r_dsp0, r_dsp, r_idx, r_fld, r_call, r_callk, r_callv, r_make, r_mcl, r_blt, r_comp, r_fst, r_frz, r_met, r_rvs, r_slc00, r_slc10, r_slc01, r_slc11, r_chain, r_conj1, r_conj2, r_disj1, r_disj2, r_ts0, r_ts1, r_es0, r_es1, r_asg, r_asgc, r_par, r_asgt, r_sub, r_fset, r_exp, r_ret, r_retn, r_ifs, r_fors, r_whil, r_rais, r_pass, r_frzs, r_tryo, r_anm, r_asub, r_as0, r_as1, r_rng1, r_seq, r_txt, r_rev, onB_t, onB_f, onB_n, onI_i, onS_s, onT_t, onR_r, onV_s, onF_f, onO_s, onG_s, sv_t, sv_l, wk_t, wk_l, wk_s, newL_t, newL_f, bin_add, bin_cat, bin_catT, bin_catL, bin_sub, bin_mul, bin_repL, bin_mod, bin_fdiv, bin_pow, c_eq_i, c_eq_s, c_eq_b, c_ne_i, c_ne_s, c_ne_b, c_lt, c_lt_s, c_le, c_gt, c_ge, c_is, c_isnot, idx_tup, idx_lst, idx_scr, atI_0, atI_1, atI_2, atI_3, atI_4, atI_5, atI_6, atI_nat, b_len_tup, b_len_lst, b_len_scr, b_len_str, b_len_dct, b_abs, b_int, b_int_bl, b_max, b_min, b_divmod, b_str_i, b_str_s, b_all, b_any, b_sum, b_list_l, b_list_t, b_tuple_l, wpF, bindG, bindGs, ITs.len, IEs.len, pick, startD, L4.Po.behind, id_eq, Sto.same, Sto.set_set, List.map_cons, List.map_nil, List.length_cons, List.length_nil, List.getElem?_cons_zero, List.getElem?_cons_succ, List.set_cons_zero, List.set_cons_succ, List.replicate, List.cons_append, List.nil_append, List.append_nil, List.filterMap_cons, List.filterMap_nil, Nat.reduceAdd, Nat.reduceSub, Nat.reduceLeDiff, Nat.reduceEqDiff, Int.reduceToNat, Int.reducePow, Int.reduceMul, Int.reduceSub, Int.reduceAdd, Int.reduceNeg, Int.reduceLE, Int.reduceLT, true_and, and_true, decide_true, decide_false, Bool.not_true, Bool.not_false, reduceCtorEq, ne_eq, not_false_eq_true, r_oeq, r_osp, r_cllx, r_ocmp, r_enm, r_zip, zk_tt, zk_ll, r_rng2, r_dct, dk_d, dk_d2, wk_map, c_isb, c_isnotb, oe_int, oe_str, oe_bl, oe_non, oe_tup, oe_lst, oe_ins, os_rep, os_len, eqOk_non, eqOk_int, eqOk_bl, eqOk_str, eqOk_tup, eqOk_lst, eqOk_ins, sl_tup, sl_str, sl_lst, iv_i, fld_i, b_isi, cl_int, cl_bool, cl_str, cl_list, cl_tuple, cl_dict, cl_lt, is_non, is_int, is_bl, is_str, is_tup, is_lst, is_dct, isT, isSub, List.any_cons, List.any_nil, Bool.or_false, Bool.false_or, Bool.or_true, Bool.true_or, Bool.and_true, Bool.true_and, Bool.and_false, Bool.false_and, String.reduceBEq, wkV_g, wkV_ds, wkV_bk, idx_str, m_join, ty_str, wipeD, List.foldl_cons, List.foldl_nil, ix_q0, ix_q1, isNo_non, isNo_int, isNo_str, isNo_bl, isNo_tup, isNo_lst, isNo_ref, isNo_ins, isNo_dct, isNo_frQ, bin_repT, cutL_to, cutL_from, cutL_both, cutN_to, cutN_from, cutN_both, List.take_succ_cons, List.take_zero, List.drop_succ_cons, List.drop_zero, List.take_nil, List.drop_nil, ky_nil, ky_str, ky_tup, ky_lst, ky_non, ky_ins, ky_1, ky_3, ky_q, Bool.true_beq, Bool.false_beq, bin_repS, r_frzo, $[$ls:term],*])
local macro_rules | `(tactic| walk_at "l3 wxs") => `(tactic| simp only [r_var, r_cst, r_fnv, r_clv, r_tyv, r_gc, r_bin, r_neg, r_nt, r_cmp, r_conj, r_disj, r_ite, r_tup, r_lst, r_dsp0, r_dsp, r_idx, r_fld, r_call, r_callk, r_callv, r_make, r_mcl, r_blt, r_comp, r_fst, r_frz, r_met, r_rvs, r_slc00, r_slc10, r_slc01, r_slc11, r_chain, r_conj1, r_conj2, r_disj1, r_disj2, r_ts0, r_ts1, r_es0, r_es1, r_asg, r_asgc, r_par, r_asgt, r_sub, r_fset, r_exp, r_ret, r_retn, r_ifs, r_fors, r_whil, r_rais, r_pass, r_frzs, r_tryo, r_anm, r_asub, r_as0, r_as1, r_rng1, r_seq, r_txt, r_rev, onB_t, onB_f, onB_n, onI_i, onS_s, onT_t, onR_r, onV_s, onF_f, onO_s, onG_s, sv_t, sv_l, wk_t, wk_l, wk_s, newL_t, newL_f, bin_add, bin_cat, bin_catT, bin_catL, bin_sub, bin_mul, bin_repL, bin_mod, bin_fdiv, bin_pow, c_eq_i, c_eq_s, c_eq_b, c_ne_i, c_ne_s, c_ne_b, c_lt, c_lt_s, c_le, c_gt, c_ge, c_is, c_isnot, idx_tup, idx_lst, idx_scr, atI_0, atI_1, atI_2, atI_3, atI_4, atI_5, atI_6, atI_nat, b_len_tup, b_len_lst, b_len_scr, b_len_str, b_len_dct, b_abs, b_int, b_int_bl, b_max, b_min, b_divmod, b_str_i, b_str_s, b_all, b_any, b_sum, b_list_l, b_list_t, b_tuple_l, wpF, bindG, bindGs, ITs.len, IEs.len, pick, startD, L4.Po.behind, id_eq, Sto.same, Sto.set_set, List.map_cons, List.map_nil, List.length_cons, List.length_nil, List.getElem?_cons_zero, List.getElem?_cons_succ, List.set_cons_zero, List.set_cons_succ, List.replicate, List.cons_append, List.nil_append, List.append_nil, List.filterMap_cons, List.filterMap_nil, Nat.reduceAdd, Nat.reduceSub, Nat.reduceLeDiff, Nat.reduceEqDiff, Int.reduceToNat, Int.reducePow, Int.reduceMul, Int.reduceSub, Int.reduceAdd, Int.reduceNeg, Int.reduceLE, Int.reduceLT, true_and, and_true, decide_true, decide_false, Bool.not_true, Bool.not_false, reduceCtorEq, ne_eq, not_false_eq_true, r_oeq, r_osp, r_cllx, r_ocmp, r_enm, r_zip, zk_tt, zk_ll, r_rng2, r_dct, dk_d, dk_d2, wk_map, c_isb, c_isnotb, oe_int, oe_str, oe_bl, oe_non, oe_tup, oe_lst, oe_ins, os_rep, os_len, eqOk_non, eqOk_int, eqOk_bl, eqOk_str, eqOk_tup, eqOk_lst, eqOk_ins, sl_tup, sl_str, sl_lst, iv_i, fld_i, b_isi, cl_int, cl_bool, cl_str, cl_list, cl_tuple, cl_dict, cl_lt, is_non, is_int, is_bl, is_str, is_tup, is_lst, is_dct, isT, isSub, List.any_cons, List.any_nil, Bool.or_false, Bool.false_or, Bool.or_true, Bool.true_or, Bool.and_true, Bool.true_and, Bool.and_false, Bool.false_and, String.reduceBEq, wkV_g, wkV_ds, wkV_bk, idx_str, m_join, ty_str, wipeD, List.foldl_cons, List.foldl_nil, ix_q0, ix_q1, isNo_non, isNo_int, isNo_str, isNo_bl, isNo_tup, isNo_lst, isNo_ref, isNo_ins, isNo_dct, isNo_frQ, bin_repT, cutL_to, cutL_from, cutL_both, cutN_to, cutN_from, cutN_both, List.take_succ_cons, List.take_zero, List.drop_succ_cons, List.drop_zero, List.take_nil, List.drop_nil, ky_nil, ky_str, ky_tup, ky_lst, ky_non, ky_ins, ky_1, ky_3, ky_q, Bool.true_beq, Bool.false_beq, bin_repS, r_frzo])
local macro_rules | `(tactic| walk_at "l3 wst") => `(tactic| (refine stepS rfl ?_; walk_at "l3 wxs"))
local macro_rules | `(tactic| walk_at "l3 wnl") => `(tactic| (refine nilS rfl ?_; (try walk_at "l3 wxs")))
local macro_rules | `(tactic| walk_at "l3 shw") => `(tactic| repeat' (first | assumption | exact shn_bl | exact shn_non | exact shn_int (by assumption) | exact shn_itxt (by assumption) | exact List.forall_mem_nil _ | refine List.forall_mem_cons.mpr (And.intro ?_ ?_) | refine shn_tup (Nat.le_of_ble_eq_true rfl) ?_ | refine shn_lst (Nat.le_of_ble_eq_true rfl) ?_ | refine shn_dct (Nat.le_of_ble_eq_true rfl) rfl ?_ ?_ | exact tell_key (by assumption)))
open scoped Rat

theorem mapIdx_const {α β : Type} (f : α → β) : ∀ l : List α, l.mapIdx (fun _ c => f c) = l.map f
  | [] => rfl
  | x :: l => by
    rw [List.mapIdx_cons, List.map_cons]
    congr 1
    exact mapIdx_const f l
theorem tl_upper (t : Str) : TL.tl (Txt.upper t) = (TL.tl t).flatMap Unicode.upperOf := by
  show (placed t fun _ c => Unicode.upperOf c).toList = t.cps.toList.flatMap Unicode.upperOf
  unfold placed
  rw [Array.toList_flatten]
  simp only [Array.toList_mapIdx, List.flatMap]
  rw [mapIdx_const, List.map_map]
  rfl
theorem up_ltr : ∀ c, c < 128 → (Unicode.upperOf c).length = 1 ∧ ∀ d ∈ Unicode.upperOf c, d < 1000 := by decide +kernel
theorem up_len : ∀ {l : List Nat}, (∀ c ∈ l, c < 128) → (l.flatMap Unicode.upperOf).length = l.length
  | [], _ => rfl
  | c :: l, h => by
    rw [List.flatMap_cons, List.length_append, up_len fun d hd => h d (List.mem_cons_of_mem _ hd), (up_ltr c (h c (List.mem_cons_self ..))).1, List.length_cons]
    omega
theorem TxOk.upper {m : Nat} {t : Str} (h : TxOk m t) (hc : ∀ c ∈ TL.tl t, c < 128) : TxOk m (Txt.upper t) := by
  unfold TxOk
  rw [tl_upper]
  refine ⟨fun d hd => ?_, by rw [up_len hc]; exact h.2⟩
  obtain ⟨c, hc1, hd⟩ := List.mem_flatMap.mp hd
  exact (up_ltr c (hc c hc1)).2 d hd
theorem TxOk.sok {m : Nat} {t : Str} (h : TxOk m t) : sok t := by
  unfold L4.sok PyData.strOk
  rw [← Array.all_toList, List.all_eq_true]
  exact fun c hc => decide_eq_true (Nat.lt_of_lt_of_le (h.1 c hc) (by decide))
section
variable {C : CallF} {P : Pg} {ex : Option Exc} {S : Sto} {Q : PoE} {E : PoX} {Po : L4.Po}
theorem m_upper {fz : Bool} {a : Str} (h1 : a.length ≤ 5000000) (h2 : sok (Txt.upper a)) (h : Q (.str (Txt.upper a)) S) : wpM .upper fz (.str a) [] S Q := ⟨⟨h1, h2⟩, h⟩

end
end L4

namespace Q16
open PySem PySem.Spec PyProof.Rows L2 L4
noncomputable def b_law : ISs := .cons (.ret (.blt .all true (.cons (.comp true (.nm 1) (.rng1 (.blt .max true (.cons (.cst (.int 1)) (.cons (.blt .min true (.cons (.blt .len true (.cons (.var 0) .nil)) (.cons (.cst (.int 10)) .nil))) .nil)))) .nil (.call 1 (.cons (.call 2 (.cons (.call 3 (.cons (.var 0) (.cons (.var 1) .nil))) .nil)) .nil)) [1]) .nil))) .nil
noncomputable def f_law : Fn := { name := "law", ps := ["_law_script"], N := ["_law_script", "_law_k"], kw := [], body := b_law }
noncomputable def b_law_right_1 : ISs := .cons (.ret (.cst (.bl true))) .nil
noncomputable def b_law_right_2 : ISs := .cons (.ret (.cst (.bl false))) .nil
noncomputable def b_law_right_3 : ISs := .cons (.ifs (.cmp .ne (.comp true (.nm 4) (.seq (.var 1)) .nil (.mcl "measure" [] [0] [] (.var 3) (.cons (.var 4) .nil) .nil) [4]) (.bin .add true (.bin .mul true (.lst true (.cons (.tup (.cons (.cst (.int 0)) (.cons (.cst (.int 1)) .nil))) .nil)) (.cst (.int 4))) (.lst true (.cons (.tup (.cons (.cst (.int 7)) (.cons (.cst (.int 2)) .nil))) .nil)))) b_law_right_2 .nil) .nil
noncomputable def b_law_right_4 : ISs := .cons (.ret (.cst (.bl false))) .nil
noncomputable def b_law_right_5 : ISs := .cons (.ifs (.cmp .ne (.call 4 (.cons (.var 11) (.cons (.var 3) (.cons (.var 12) .nil)))) (.idx (.var 9) (.var 11))) b_law_right_4 .nil) .nil
noncomputable def b_law_right_6 : ISs := .cons (.fors (.tp (.cons (.nm 11) (.cons (.nm 12) .nil))) (.enm (.lst true (.cons (.var 4) (.cons (.var 4) (.cons (.var 7) (.cons (.var 6) .nil)))))) b_law_right_5) b_law_right_3
noncomputable def b_law_right_7 : ISs := .cons (.fors (.nm 10) (.rng1 (.cst (.int 2))) b_law_right_6) b_law_right_1
noncomputable def b_law_right_8 : ISs := .cons (.frz 9) b_law_right_7
noncomputable def b_law_right_9 : ISs := .cons (.exp (.met .append true (.var 9) (.cons (.bin .add true (.bin .add true (.lst true (.cons (.cst (.bl false)) (.cons (.cst (.bl false)) (.cons (.cst (.bl true)) .nil)))) (.var 8)) (.lst true (.cons (.idx (.bin .add true (.lst true (.cons (.cst (.str "name")) .nil)) (.var 1)) (.var 5)) .nil))) .nil))) b_law_right_8
noncomputable def b_law_right_10 : ISs := .cons (.asg 9 (.lst false (.cons (.bin .add true (.lst true (.cons (.cst (.bl true)) (.cons (.cst (.bl false)) (.cons (.cst (.bl false)) .nil)))) (.var 8)) (.cons (.bin .add true (.lst true (.cons (.cst (.bl true)) (.cons (.cst (.bl false)) (.cons (.cst (.bl false)) .nil)))) (.var 8)) (.cons (.bin .add true (.bin .add true (.lst true (.cons (.cst (.bl false)) (.cons (.cst (.bl true)) (.cons (.cst (.bl false)) .nil)))) (.var 8)) (.lst true (.cons (.var 7) .nil))) .nil))))) b_law_right_9
noncomputable def b_law_right_11 : ISs := .cons (.asg 8 (.lst true (.cons (.cst (.bl true)) (.cons (.cst (.bl false)) (.cons (.cst (.bl false)) (.cons (.cst (.bl false)) (.cons (.cst (.bl false)) .nil))))))) b_law_right_10
noncomputable def b_law_right_12 : ISs := .cons (.asg 7 (.call 5 (.cons (.var 0) .nil))) b_law_right_11
noncomputable def b_law_right_13 : ISs := .cons (.frz 6) b_law_right_12
noncomputable def b_law_right_14 : ISs := .cons (.sub (.var 6) (.var 5) (.idx (.lst true (.cons (.cst (.int 7)) (.cons (.tup (.cons (.neg (.cst (.int 1))) (.cons (.cst (.int 2)) .nil))) .nil))) (.blt .int true (.cons (.cmp .gt (.var 5) (.cst (.int 0))) .nil)))) b_law_right_13
noncomputable def b_law_right_15 : ISs := .cons (.asg 6 (.lst false (.cons (.var 2) (.cons (.tup (.cons (.cst (.int 1)) (.cons (.cst (.int 2)) .nil))) (.cons (.tup (.cons (.cst (.int 1)) (.cons (.cst (.int 3)) .nil))) (.cons (.tup (.cons (.cst (.int 1)) (.cons (.cst (.int 6)) .nil))) (.cons (.tup (.cons (.cst (.int 0)) (.cons (.cst (.int 1)) .nil))) (.cons (.tup (.cons (.cst (.int 3)) (.cons (.cst (.int 1)) .nil))) .nil)))))))) b_law_right_14
noncomputable def b_law_right_16 : ISs := .cons (.asg 5 (.call 6 (.cons (.var 0) (.cons (.cst (.int 6)) .nil)))) b_law_right_15
noncomputable def b_law_right_17 : ISs := .cons (.asg 4 (.call 7 (.cons (.bin .add true (.bin .sub true (.call 6 (.cons (.var 0) (.cons (.bin .sub true (.bin .mul true (.cst (.int 2)) (.bin .pow true (.cst (.int 10)) (.cst (.int 12)))) (.cst (.int 1))) .nil))) (.bin .pow true (.cst (.int 10)) (.cst (.int 12)))) (.cst (.int 1))) (.cons (.bin .add true (.cst (.int 1)) (.call 6 (.cons (.var 0) (.cons (.bin .sub true (.bin .pow true (.cst (.int 10)) (.cst (.int 12))) (.cst (.int 1))) .nil)))) .nil)))) b_law_right_16
noncomputable def b_law_right_18 : ISs := .cons (.asg 3 (.frz (.make 0 ["price"] [0, 2, 3, 4, 5, 1] [.non, .non, .non, .non] (.cons (.var 2) .nil) (.cons (.tup (.cons (.cst (.int 7)) (.cons (.cst (.int 2)) .nil))) .nil)))) b_law_right_17
noncomputable def b_law_right_19 : ISs := .cons (.asg 2 (.call 10 (.cons (.var 0) (.cons (.lst true .nil) .nil)))) b_law_right_18
noncomputable def b_law_right : ISs := .cons (.asg 1 (.lst true (.cons (.cst (.str "flour")) (.cons (.cst (.str "water")) (.cons (.cst (.str "salt")) (.cons (.cst (.str "thirst")) (.cons (.cst (.str "price")) .nil))))))) b_law_right_19
noncomputable def f_law_right : Fn := { name := "_law_right", ps := ["_law_pot_here"], N := ["_law_pot_here", "_law_words", "_law_name_here", "_law_stuff", "_law_one", "_law_at", "_law_args", "_law_word_here", "_law_rest", "_law_due", "_law_turn", "_law_way", "_law_thing"], kw := [], body := b_law_right }
noncomputable def b_law_pot : ISs := .cons (.ret (.lst false (.cons (.blt .max true (.cons (.cst (.int 0)) (.cons (.bin .sub true (.var 0) (.bin .pow true (.cst (.int 10)) (.cst (.int 18)))) .nil))) (.cons (.bin .mod true (.bin .add true (.bin .mul true (.bin .mod true (.var 0) (.cst (.int 2147483629))) (.cst (.int 48271))) (.cst (.int 7919))) (.cst (.int 2147483647))) .nil)))) .nil
noncomputable def f_law_pot : Fn := { name := "_law_pot", ps := ["_law_cell_here"], N := ["_law_cell_here"], kw := [], body := b_law_pot }
noncomputable def b_law_cell : ISs := .cons (.ret (.ite (.cmp .lt (.var 1) (.blt .len true (.cons (.var 0) .nil))) (.idx (.var 0) (.var 1)) (.cst (.int 0)))) .nil
noncomputable def f_law_cell : Fn := { name := "_law_cell", ps := ["_law_script", "_law_k"], N := ["_law_script", "_law_k"], kw := [], body := b_law_cell }
noncomputable def b_law_told_1 : ISs := .cons (.ret (.var 3)) .nil
noncomputable def b_law_told_2 : ISs := .cons (.exp (.met .append true (.var 3) (.cons (.xfd "field") .nil))) .nil
noncomputable def b_law_told_3 : ISs := .cons (.ifs (.xis (.clv 2)) b_law_told_2 .nil) .nil
noncomputable def b_law_told_4 : ISs := .cons (.exp (.met .append true (.var 3) (.cons (.xfd "who") .nil))) .nil
noncomputable def b_law_told_5 : ISs := .cons (.ifs (.xis (.clv 3)) b_law_told_4 .nil) b_law_told_3
noncomputable def b_law_told_6 : ISs := .cons (.asg 3 (.bin .add false (.var 3) (.cllx 11 .nil))) b_law_told_5
noncomputable def b_law_told_7 : ISs := .cons (.asg 3 (.lst false (.cons (.xis (.clv 4)) (.cons (.xis (.clv 3)) (.cons (.xis (.clv 2)) (.cons (.xis (.tyv "ValueError")) .nil)))))) b_law_told_6
noncomputable def b_law_told_8 : ISs := .cons (.exp (.call 12 (.cons (.var 0) (.cons (.var 1) (.cons (.var 2) .nil))))) .nil
noncomputable def b_law_told_9 : ISs := .cons (.tryo b_law_told_8 (.cons [1] (some 4) b_law_told_7 .nil)) b_law_told_1
noncomputable def b_law_told : ISs := .cons (.asg 3 (.lst false .nil)) b_law_told_9
noncomputable def f_law_told : Fn := { name := "_law_told", ps := ["_law_way", "_law_stuff", "_law_thing"], N := ["_law_way", "_law_stuff", "_law_thing", "_law_found", "_law_e"], kw := [], body := b_law_told }
noncomputable def b_law_word_1 : ISs := .cons (.ret (.idx (.bin .add true (.var 3) (.lst true (.cons (.call 10 (.cons (.var 0) (.cons (.var 1) .nil))) .nil))) (.var 4))) .nil
noncomputable def b_law_word_2 : ISs := .cons (.asg 3 (.bin .add true (.var 3) (.lst true (.cons (.cst (.str "name")) (.cons (.cst (.str "measure")) .nil))))) b_law_word_1
noncomputable def b_law_word_3 : ISs := .cons (.asg 3 (.lst true (.cons (.cst (.str "")) (.cons (.met .upper true (.var 2) .nil) (.cons (.bin .add true (.var 2) (.cst (.str "s"))) (.cons (.bin .add true (.bin .add true (.slc true (.var 2) false (.cst .non) true (.var 5)) (.cst (.str " "))) (.slc true (.var 2) true (.var 5) false (.cst .non))) (.cons (.cst .non) (.cons (.cst (.int 7)) (.cons (.lst true (.cons (.var 2) .nil)) (.cons (.frz (.dsp false (.cons (.var 2) (.cons (.cst (.int 1)) .nil)))) .nil)))))))))) b_law_word_2
noncomputable def b_law_word_4 : ISs := .cons (.par 4 5 (.call 6 (.cons (.var 0) (.cons (.cst (.int 11)) .nil))) (.call 6 (.cons (.var 0) (.cons (.cst (.int 7)) .nil)))) b_law_word_3
noncomputable def b_law_word_5 : ISs := .cons (.asg 2 (.idx (.var 1) (.call 6 (.cons (.var 0) (.cons (.cst (.int 5)) .nil))))) b_law_word_4
noncomputable def b_law_word : ISs := .cons (.asg 1 (.lst true (.cons (.cst (.str "flour")) (.cons (.cst (.str "water")) (.cons (.cst (.str "salt")) (.cons (.cst (.str "thirst")) (.cons (.cst (.str "price")) .nil))))))) b_law_word_5
noncomputable def f_law_word : Fn := { name := "_law_word", ps := ["_law_pot_here"], N := ["_law_pot_here", "_law_words", "_law_word_here", "_law_some", "_law_way", "_law_at"], kw := [], body := b_law_word }
noncomputable def b_law_draw_1 : ISs := .cons (.ret (.bin .mod true (.bin .fdiv true (.bin .mod true (.bin .mul true (.idx (.var 0) (.cst (.int 1))) (.idx (.var 0) (.cst (.int 1)))) (.cst (.int 2147483543))) (.cst (.int 13))) (.var 1))) .nil
noncomputable def b_law_draw_2 : ISs := .cons (.sub (.var 0) (.cst (.int 1)) (.bin .mod true (.bin .add true (.bin .mul true (.idx (.var 0) (.cst (.int 1))) (.cst (.int 39373))) (.cst (.int 8191))) (.cst (.int 2147483587)))) b_law_draw_1
noncomputable def b_law_draw_3 : ISs := .cons (.ret (.var 2)) .nil
noncomputable def b_law_draw_4 : ISs := .cons (.asgt (.cons (.sub (.var 0) (.cst (.int 0))) (.cons (.nm 2) .nil)) (.blt .divmod true (.cons (.idx (.var 0) (.cst (.int 0))) (.cons (.var 1) .nil)))) b_law_draw_3
noncomputable def b_law_draw : ISs := .cons (.ifs (.cmp .gt (.idx (.var 0) (.cst (.int 0))) (.cst (.int 0))) b_law_draw_4 .nil) b_law_draw_2
noncomputable def f_law_draw : Fn := { name := "_law_draw", ps := ["_law_pot_here", "_law_many"], N := ["_law_pot_here", "_law_many", "_law_digit"], kw := [], body := b_law_draw }
noncomputable def b_law_low_1 : ISs := .cons (.ret (.tup (.cons (.bin .fdiv true (.var 0) (.var 2)) (.cons (.bin .fdiv true (.var 1) (.var 2)) .nil)))) .nil
noncomputable def b_law_low_2 : ISs := .cons (.asg 2 (.neg (.var 2))) .nil
noncomputable def b_law_low_3 : ISs := .cons (.ifs (.cmp .lt (.var 1) (.cst (.int 0))) b_law_low_2 .nil) b_law_low_1
noncomputable def b_law_low_4 : ISs := .cons (.par 2 3 (.var 3) (.bin .mod true (.var 2) (.var 3))) .nil
noncomputable def b_law_low_5 : ISs := .cons (.whil (.cmp .gt (.var 3) (.cst (.int 0))) b_law_low_4) b_law_low_3
noncomputable def b_law_low : ISs := .cons (.par 2 3 (.blt .abs true (.cons (.var 0) .nil)) (.blt .abs true (.cons (.var 1) .nil))) b_law_low_5
noncomputable def f_law_low : Fn := { name := "_law_low", ps := ["_law_top", "_law_bottom"], N := ["_law_top", "_law_bottom", "_law_one", "_law_other"], kw := [], body := b_law_low }
noncomputable def b_Stuff_measure_1 : ISs := .cons (.ret (.idx (.fld (.var 0) "kept") (.gidx 0 (.var 1)))) .nil
noncomputable def b_Stuff_measure_2 : ISs := .cons (.rais 3 (.cons (.var 1) .nil)) .nil
noncomputable def b_Stuff_measure : ISs := .cons (.ifs (.disj (.cons (.nt (.blt .isi true (.cons (.var 1) (.cons (.tyv "str") .nil)))) (.cons (.cmp .notin (.var 1) (.gc 0)) .nil))) b_Stuff_measure_2 .nil) b_Stuff_measure_1
noncomputable def f_Stuff_measure : Fn := { name := "Stuff.measure", ps := ["self", "word"], N := ["self", "word"], kw := [(2, [], [0, 1], [])], body := b_Stuff_measure }
noncomputable def b_Stuff_init___1 : ISs := .cons (.fset (.var 0) "kept" (.blt .tuple true (.cons (.var 7) .nil))) .nil
noncomputable def b_Stuff_init___2 : ISs := .cons (.fset (.var 0) "called" (.var 1)) b_Stuff_init___1
noncomputable def b_Stuff_init___3 : ISs := .cons (.rais 2 (.cons (.var 8) .nil)) .nil
noncomputable def b_Stuff_init___4 : ISs := .cons (.ifs (.cmp .isnot (.var 8) (.cst .non)) b_Stuff_init___3 .nil) b_Stuff_init___2
noncomputable def b_Stuff_init___5 : ISs := .cons (.asg 8 (.call 13 (.cons (.var 1) (.cons (.var 7) .nil)))) b_Stuff_init___4
noncomputable def b_Stuff_init__ : ISs := .cons (.asgc 7 (.comp true (.nm 9) (.seq (.tup (.cons (.var 2) (.cons (.var 3) (.cons (.var 4) (.cons (.var 5) (.cons (.var 6) .nil))))))) .nil (.call 14 (.cons (.var 9) .nil)) [9])) b_Stuff_init___5
noncomputable def f_Stuff_init__ : Fn := { name := "Stuff.__init__", ps := ["self", "name", "flour", "water", "salt", "thirst", "price"], N := ["self", "name", "flour", "water", "salt", "thirst", "price", "measures", "word", "one"], kw := [(2, ["price"], [0, 1, 3, 4, 5, 6, 2], [.non, .non, .non, .non]), (7, [], [0, 1, 2, 3, 4, 5, 6], [])], body := b_Stuff_init__ }
noncomputable def b_law_name_1 : ISs := .cons (.ret (.idx (.comp true (.nm 7) (.seq (.var 5)) (.cons (.cmp .notin (.var 7) (.var 1)) .nil) (.var 7) [7]) (.cst (.int 0)))) .nil
noncomputable def b_law_name_2 : ISs := .cons (.asg 5 (.bin .add true (.lst true (.cons (.var 4) .nil)) (.comp true (.nm 6) (.rng1 (.cst (.int 26))) .nil (.bin .add true (.bin .add true (.slc true (.var 4) false (.cst .non) true (.cst (.int 8))) (.idx (.var 2) (.var 6))) (.cst (.str "q"))) [6]))) b_law_name_1
noncomputable def b_law_name_3 : ISs := .cons (.asg 4 (.met .join true (.cst (.str "")) (.cons (.comp true (.nm 6) (.rng1 (.var 3)) .nil (.idx (.var 2) (.call 6 (.cons (.var 0) (.cons (.cst (.int 26)) .nil)))) [6]) .nil))) b_law_name_2
noncomputable def b_law_name_4 : ISs := .cons (.asg 3 (.bin .add true (.cst (.int 1)) (.call 6 (.cons (.var 0) (.cons (.idx (.lst true (.cons (.cst (.int 1)) (.cons (.cst (.int 3)) (.cons (.cst (.int 10)) .nil)))) (.call 6 (.cons (.var 0) (.cons (.cst (.int 3)) .nil)))) .nil))))) b_law_name_3
noncomputable def b_law_name : ISs := .cons (.asg 2 (.cst (.str "abcdefghijklmnopqrstuvwxyz"))) b_law_name_4
noncomputable def f_law_name : Fn := { name := "_law_name", ps := ["_law_pot_here", "_law_taken"], N := ["_law_pot_here", "_law_taken", "_law_letters", "_law_size", "_law_name_here", "_law_some", "_law_k", "_law_one"], kw := [], body := b_law_name }
noncomputable def b_law_others_1 : ISs := .cons (.ret (.bin .add true (.var 1) (.lst true (.cons (.xis (.tup (.cons (.clv 11) (.cons (.clv 10) (.cons (.clv 9) (.cons (.clv 8) .nil)))))) (.cons (.xis (.tup (.cons (.clv 7) (.cons (.clv 6) (.cons (.clv 5) .nil))))) .nil))))) .nil
noncomputable def b_law_others_2 : ISs := .cons (.asg 1 (.bin .add true (.var 1) (.lst true (.cons (.xis (.tup (.cons (.clv 19) (.cons (.clv 18) (.cons (.clv 17) (.cons (.clv 16) (.cons (.clv 15) (.cons (.clv 14) (.cons (.clv 13) (.cons (.clv 12) .nil)))))))))) .nil)))) b_law_others_1
noncomputable def b_law_others : ISs := .cons (.asg 1 (.lst true (.cons (.xis (.tup (.cons (.clv 28) (.cons (.clv 27) (.cons (.clv 26) (.cons (.clv 25) (.cons (.clv 24) (.cons (.clv 23) (.cons (.clv 22) (.cons (.clv 21) (.cons (.clv 20) .nil))))))))))) .nil))) b_law_others_2
noncomputable def f_law_others : Fn := { name := "_law_others", ps := ["_law_e"], N := ["_law_e", "_law_found"], kw := [], xa := true, body := b_law_others }
noncomputable def b_law_deed_1 : ISs := .cons (.ret (.frz (.make 0 [] [0, 1, 2, 3, 4, 5] [] (.cons (.idx (.var 2) (.cst (.int 0))) (.cons (.idx (.var 2) (.cst (.int 1))) (.cons (.idx (.var 2) (.cst (.int 2))) (.cons (.idx (.var 2) (.cst (.int 3))) (.cons (.idx (.var 2) (.cst (.int 4))) (.cons (.idx (.var 2) (.cst (.int 5))) .nil)))))) .nil))) .nil
noncomputable def b_law_deed_2 : ISs := .cons (.ret (.mcl "measure" [] [0] [] (.var 1) (.cons (.var 2) .nil) .nil)) .nil
noncomputable def b_law_deed_3 : ISs := .cons (.ifs (.cmp .eq (.var 0) (.cst (.int 2))) b_law_deed_2 .nil) b_law_deed_1
noncomputable def b_law_deed_4 : ISs := .cons (.ret (.call 15 (.cons (.var 2) (.cons (.tup (.cons (.cst (.int 0)) (.cons (.cst (.int 1)) .nil))) .nil)))) .nil
noncomputable def b_law_deed_5 : ISs := .cons (.ifs (.cmp .eq (.var 0) (.cst (.int 1))) b_law_deed_4 .nil) b_law_deed_3
noncomputable def b_law_deed_6 : ISs := .cons (.ret (.call 16 (.cons (.idx (.var 2) (.cst (.int 0))) (.cons (.cst (.int 0)) .nil)))) .nil
noncomputable def b_law_deed : ISs := .cons (.ifs (.cmp .eq (.var 0) (.cst (.int 0))) b_law_deed_6 .nil) b_law_deed_5
noncomputable def f_law_deed : Fn := { name := "_law_deed", ps := ["_law_way", "_law_stuff", "_law_thing"], N := ["_law_way", "_law_stuff", "_law_thing"], kw := [], body := b_law_deed }
noncomputable def b_first_wrong_1 : ISs := .cons (.ret (.cst .non)) .nil
noncomputable def b_first_wrong_2 : ISs := .cons (.ret (.var 3)) .nil
noncomputable def b_first_wrong_3 : ISs := .cons (.ifs (.conj (.cons (.cmp .eq (.var 3) (.cst (.str "salt"))) (.cons (.call 17 (.cons (.gc 1) (.cons (.call 18 (.cons (.slc true (.var 1) false (.cst .non) true (.cst (.int 3))) .nil)) .nil))) .nil))) b_first_wrong_2 .nil) .nil
noncomputable def b_first_wrong_4 : ISs := .cons (.ret (.var 3)) .nil
noncomputable def b_first_wrong_5 : ISs := .cons (.ifs (.nt (.call 19 (.cons (.idx (.var 1) (.var 2)) .nil))) b_first_wrong_4 .nil) b_first_wrong_3
noncomputable def b_first_wrong_6 : ISs := .cons (.fors (.tp (.cons (.nm 2) (.cons (.nm 3) .nil))) (.enm (.gc 0)) b_first_wrong_5) b_first_wrong_1
noncomputable def b_first_wrong_7 : ISs := .cons (.ret (.cst (.str "name"))) .nil
noncomputable def b_first_wrong : ISs := .cons (.ifs (.nt (.call 20 (.cons (.var 0) .nil))) b_first_wrong_7 .nil) b_first_wrong_6
noncomputable def f_first_wrong : Fn := { name := "first_wrong", ps := ["name", "measures"], N := ["name", "measures", "k", "word"], kw := [], body := b_first_wrong }
noncomputable def b_or_none_1 : ISs := .cons (.ret (.var 0)) .nil
noncomputable def b_or_none_2 : ISs := .cons (.ret (.gc 2)) .nil
noncomputable def b_or_none : ISs := .cons (.ifs (.cmp .is_ (.var 0) (.cst .non)) b_or_none_2 .nil) b_or_none_1
noncomputable def f_or_none : Fn := { name := "or_none", ps := ["thing"], N := ["thing"], kw := [], body := b_or_none }
noncomputable def b_over : ISs := .cons (.ret (.call 16 (.cons (.bin .mul true (.idx (.var 0) (.cst (.int 0))) (.idx (.var 1) (.cst (.int 1)))) (.cons (.bin .mul true (.idx (.var 0) (.cst (.int 1))) (.idx (.var 1) (.cst (.int 0)))) .nil)))) .nil
noncomputable def f_over : Fn := { name := "over", ps := ["one", "other"], N := ["one", "other"], kw := [], body := b_over }
noncomputable def b_fraction_1 : ISs := .cons (.ret (.tup (.cons (.bin .fdiv true (.var 0) (.var 2)) (.cons (.bin .fdiv true (.var 1) (.var 2)) .nil)))) .nil
noncomputable def b_fraction_2 : ISs := .cons (.asg 2 (.neg (.var 2))) .nil
noncomputable def b_fraction_3 : ISs := .cons (.ifs (.cmp .lt (.var 1) (.cst (.int 0))) b_fraction_2 .nil) b_fraction_1
noncomputable def b_fraction_4 : ISs := .cons (.asg 2 (.call 21 (.cons (.var 0) (.cons (.var 1) .nil)))) b_fraction_3
noncomputable def b_fraction_5 : ISs := .cons (.rais 4 .nil) .nil
noncomputable def b_fraction : ISs := .cons (.ifs (.cmp .eq (.var 1) (.cst (.int 0))) b_fraction_5 .nil) b_fraction_4
noncomputable def f_fraction : Fn := { name := "fraction", ps := ["top", "bottom"], N := ["top", "bottom", "by"], kw := [], body := b_fraction }
noncomputable def b_is_less : ISs := .cons (.ret (.cmp .lt (.bin .mul true (.idx (.var 0) (.cst (.int 0))) (.idx (.var 1) (.cst (.int 1)))) (.bin .mul true (.idx (.var 1) (.cst (.int 0))) (.idx (.var 0) (.cst (.int 1)))))) .nil
noncomputable def f_is_less : Fn := { name := "is_less", ps := ["one", "other"], N := ["one", "other"], kw := [], body := b_is_less }
noncomputable def b_sum_of_1 : ISs := .cons (.ret (.var 1)) .nil
noncomputable def b_sum_of_2 : ISs := .cons (.asg 1 (.call 22 (.cons (.var 1) (.cons (.var 2) .nil)))) .nil
noncomputable def b_sum_of_3 : ISs := .cons (.fors (.nm 2) (.seq (.var 0)) b_sum_of_2) b_sum_of_1
noncomputable def b_sum_of : ISs := .cons (.asg 1 (.gc 2)) b_sum_of_3
noncomputable def f_sum_of : Fn := { name := "sum_of", ps := ["some"], N := ["some", "found", "one"], kw := [], body := b_sum_of }
noncomputable def b_is_measure : ISs := .cons (.ret (.conj (.cons (.call 23 (.cons (.var 0) .nil)) (.cons (.cmp .ge (.idx (.var 0) (.cst (.int 0))) (.cst (.int 0))) .nil)))) .nil
noncomputable def f_is_measure : Fn := { name := "is_measure", ps := ["thing"], N := ["thing"], kw := [], body := b_is_measure }
noncomputable def b_is_name_1 : ISs := .cons (.ret (.blt .all true (.cons (.comp true (.nm 1) (.txt (.var 0)) .nil (.cmp .isin (.var 1) (.gc 3)) [1]) .nil))) .nil
noncomputable def b_is_name_2 : ISs := .cons (.ret (.cst (.bl false))) .nil
noncomputable def b_is_name : ISs := .cons (.ifs (.disj (.cons (.nt (.blt .isi true (.cons (.var 0) (.cons (.tyv "str") .nil)))) (.cons (.nt (.chain .le .le (.cst (.int 1)) (.blt .len true (.cons (.var 0) .nil)) (.gc 4))) .nil))) b_is_name_2 .nil) b_is_name_1
noncomputable def f_is_name : Fn := { name := "is_name", ps := ["thing"], N := ["thing", "sign"], kw := [], body := b_is_name }
noncomputable def b_common_1 : ISs := .cons (.ret (.blt .abs true (.cons (.var 0) .nil))) .nil
noncomputable def b_common_2 : ISs := .cons (.par 0 1 (.var 1) (.bin .mod true (.var 0) (.var 1))) .nil
noncomputable def b_common : ISs := .cons (.whil (.cmp .ne (.var 1) (.cst (.int 0))) b_common_2) b_common_1
noncomputable def f_common : Fn := { name := "common", ps := ["one", "other"], N := ["one", "other"], kw := [], body := b_common }
noncomputable def b_plus : ISs := .cons (.ret (.call 16 (.cons (.bin .add true (.bin .mul true (.idx (.var 0) (.cst (.int 0))) (.idx (.var 1) (.cst (.int 1)))) (.bin .mul true (.idx (.var 1) (.cst (.int 0))) (.idx (.var 0) (.cst (.int 1))))) (.cons (.bin .mul true (.idx (.var 0) (.cst (.int 1))) (.idx (.var 1) (.cst (.int 1)))) .nil)))) .nil
noncomputable def f_plus : Fn := { name := "plus", ps := ["one", "other"], N := ["one", "other"], kw := [], body := b_plus }
noncomputable def b_is_fraction_1 : ISs := .cons (.ret (.conj (.cons (.cmp .gt (.idx (.var 0) (.cst (.int 1))) (.cst (.int 0))) (.cons (.cmp .eq (.call 21 (.cons (.idx (.var 0) (.cst (.int 0))) (.cons (.idx (.var 0) (.cst (.int 1))) .nil))) (.cst (.int 1))) .nil)))) .nil
noncomputable def b_is_fraction_2 : ISs := .cons (.ret (.cst (.bl false))) .nil
noncomputable def b_is_fraction : ISs := .cons (.ifs (.disj (.cons (.nt (.blt .isi true (.cons (.var 0) (.cons (.tyv "tuple") .nil)))) (.cons (.cmp .ne (.blt .len true (.cons (.var 0) .nil)) (.cst (.int 2))) (.cons (.nt (.blt .all true (.cons (.comp true (.nm 1) (.seq (.var 0)) .nil (.call 24 (.cons (.var 1) .nil)) [1]) .nil))) .nil)))) b_is_fraction_2 .nil) b_is_fraction_1
noncomputable def f_is_fraction : Fn := { name := "is_fraction", ps := ["thing"], N := ["thing", "part"], kw := [], body := b_is_fraction }
noncomputable def b_is_whole : ISs := .cons (.ret (.conj (.cons (.blt .isi true (.cons (.var 0) (.cons (.tyv "int") .nil))) (.cons (.nt (.blt .isi true (.cons (.var 0) (.cons (.tyv "bool") .nil)))) .nil)))) .nil
noncomputable def f_is_whole : Fn := { name := "is_whole", ps := ["thing"], N := ["thing"], kw := [], body := b_is_whole }
noncomputable def tbl : List (List Bool) := [[true, false, false, false, false, false, false, false, false, false, false, false, false, false, false, false, false, false, false, false, false, false, false, false, false, false, false, false, false], [false, true, false, false, false, false, false, false, false, false, false, false, false, false, false, false, false, false, false, false, false, false, false, false, false, false, false, false, false], [false, true, true, false, false, false, false, false, false, false, false, false, false, false, false, false, false, false, false, false, false, false, false, false, false, false, false, false, false], [false, true, false, true, false, false, false, false, false, false, false, false, false, false, false, false, false, false, false, false, false, false, false, false, false, false, false, false, false], [false, true, false, false, true, false, false, false, false, false, false, false, false, false, false, false, false, false, false, false, false, false, false, false, false, false, false, false, false], [false, true, false, false, false, true, false, false, false, false, false, false, false, false, false, false, false, false, false, false, false, false, false, false, false, false, false, false, false], [false, true, false, false, false, false, true, false, false, false, false, false, false, false, false, false, false, false, false, false, false, false, false, false, false, false, false, false, false], [false, true, false, false, false, false, false, true, false, false, false, false, false, false, false, false, false, false, false, false, false, false, false, false, false, false, false, false, false], [false, true, false, false, false, false, false, false, true, false, false, false, false, false, false, false, false, false, false, false, false, false, false, false, false, false, false, false, false], [false, true, false, false, false, false, false, false, false, true, false, false, false, false, false, false, false, false, false, false, false, false, false, false, false, false, false, false, false], [false, true, false, false, false, false, false, false, false, false, true, false, false, false, false, false, false, false, false, false, false, false, false, false, false, false, false, false, false], [false, true, false, false, false, false, false, false, false, false, false, true, false, false, false, false, false, false, false, false, false, false, false, false, false, false, false, false, false], [false, true, false, false, false, false, false, false, false, false, false, false, true, false, false, false, false, false, false, false, false, false, false, false, false, false, false, false, false], [false, true, false, false, false, false, false, false, false, false, false, false, false, true, false, false, false, false, false, false, false, false, false, false, false, false, false, false, false], [false, true, false, false, false, false, false, false, false, false, false, false, false, false, true, false, false, false, false, false, false, false, false, false, false, false, false, false, false], [false, true, false, false, false, false, false, false, false, false, false, false, false, false, false, true, false, false, false, false, false, false, false, false, false, false, false, false, false], [false, true, false, false, false, false, false, false, false, false, false, false, false, false, false, false, true, false, false, false, false, false, false, false, false, false, false, false, false], [false, true, false, false, false, false, false, false, false, false, false, false, false, false, false, false, false, true, false, false, false, false, false, false, false, false, false, false, false], [false, true, false, false, false, false, false, false, false, false, false, false, false, false, false, false, false, false, true, false, false, false, false, false, false, false, false, false, false], [false, true, false, false, false, false, false, false, false, false, false, false, false, false, false, false, false, false, false, true, false, false, false, false, false, false, false, false, false], [false, true, false, false, false, false, false, false, false, false, false, false, false, false, false, false, false, false, false, false, true, false, false, false, false, false, false, false, false], [false, true, false, false, false, false, false, false, false, false, false, false, false, false, false, false, false, false, false, false, false, true, false, false, false, false, false, false, false], [false, true, false, false, false, false, false, false, false, false, false, false, false, false, false, false, false, false, false, false, false, false, true, false, false, false, false, false, false], [false, true, false, false, false, false, false, false, false, false, false, false, false, false, false, false, false, false, false, false, false, false, false, true, false, false, false, false, false], [false, true, false, false, false, false, false, false, false, false, false, false, false, false, false, false, false, false, false, false, false, false, false, false, true, false, false, false, false], [false, true, false, false, false, false, false, false, false, false, false, false, false, false, false, false, false, false, false, false, false, false, false, false, false, true, false, false, false], [false, true, false, false, false, false, false, false, false, false, false, false, false, false, false, false, false, false, false, false, false, false, false, false, false, false, true, false, false], [false, true, false, false, false, false, false, false, false, false, false, false, false, false, false, false, false, false, false, false, false, false, false, false, false, false, false, true, false], [false, true, false, false, false, false, false, false, false, false, false, false, false, false, false, false, false, false, false, false, false, false, false, false, false, false, false, false, true]]
noncomputable def iniT : List (Option Nat) := [some 9, none, none, none, none, none, none, none, none, none, none, none, none, none, none, none, none, none, none, none, none, none, none, none, none, none, none, none, none]
noncomputable def mthT : List (List (Str × Nat)) := [[("measure", 8)], [], [], [], [], [], [], [], [], [], [], [], [], [], [], [], [], [], [], [], [], [], [], [], [], [], [], [], []]
noncomputable def fldT : List (List Str) := [["called", "kept"], [], [], [], [], [], [], [], [], [], [], [], [], [], [], [], [], [], [], [], [], [], [], [], [], [], [], [], []]
noncomputable def xfsT : List (List Str) := [[], [], ["field"], ["who"], [], ["where", "who"], ["told"], ["who"], [], ["who", "missing"], ["names"], [], [], [], [], [], [], [], ["field"], ["field"], [], ["who"], ["who"], ["field"], [], [], ["by"], [], ["who"]]
noncomputable def excT : List Bool := [false, true, true, true, true, true, true, true, true, true, true, true, true, true, true, true, true, true, true, true, true, true, true, true, true, true, true, true, true]
noncomputable def pg : Pg := { ncl := 1, sub := fun i j => (tbl.getD i []).getD j false, ini := fun k => iniT.getD k none, mth := fun k x => (mthT.getD k []).lookup x, flds := fun k => fldT.getD k [], xfs := fun k => xfsT.getD k [], gcs := [("WORDS", (.tup [(.str "flour"), (.str "water"), (.str "salt"), (.str "thirst"), (.str "price")])), ("ONE", (.tup [(.int 1), (.int 1)])), ("NOUGHT", (.tup [(.int 0), (.int 1)])), ("LETTERS", (.str "abcdefghijklmnopqrstuvwxyz")), ("MOST_LETTERS", (.int 10))], exc := fun k => excT.getD k false }
noncomputable def pd : PD := { pg with fns := [f_law, f_law_right, f_law_pot, f_law_cell, f_law_told, f_law_word, f_law_draw, f_law_low, f_Stuff_measure, f_Stuff_init__, f_law_name, f_law_others, f_law_deed, f_first_wrong, f_or_none, f_over, f_fraction, f_is_less, f_sum_of, f_is_measure, f_is_name, f_common, f_plus, f_is_fraction, f_is_whole], cls := ["Stuff", "LoafError", "NoStuff", "NoName", "NoFraction", "Unknown", "Uneven", "Twice", "TooLittle", "Short", "Ring", "NoWhole", "NoWeights", "NoWeight", "NoText", "NoTaken", "NoStep", "NoRow", "NoPan", "NoOrder", "NoHour", "NoFlour", "NoFeel", "NoDough", "NoCount", "NoBy", "Late", "Lacking", "Dry"], gls := [("law" : Str), ("_law_right" : Str), ("_law_pot" : Str), ("_law_cell" : Str), ("_law_told" : Str), ("_law_word" : Str), ("_law_draw" : Str), ("_law_low" : Str), ("_law_name" : Str), ("_law_others" : Str), ("_law_deed" : Str), ("first_wrong" : Str), ("or_none" : Str), ("over" : Str), ("fraction" : Str), ("is_less" : Str), ("sum_of" : Str), ("is_measure" : Str), ("is_name" : Str), ("common" : Str), ("plus" : Str), ("is_fraction" : Str), ("is_whole" : Str)], blts := ["ValueError", "abs", "all", "bool", "divmod", "enumerate", "int", "isinstance", "len", "max", "min", "range", "str", "tuple"] }
noncomputable abbrev i_law : Nat := 0
noncomputable abbrev i_law_right : Nat := 1
noncomputable abbrev i_law_told : Nat := 4
noncomputable abbrev i_law_word : Nat := 5
noncomputable abbrev i_law_draw : Nat := 6
noncomputable abbrev i_law_low : Nat := 7
noncomputable abbrev i_Stuff_measure : Nat := 8
noncomputable abbrev i_Stuff_init__ : Nat := 9
noncomputable abbrev i_law_name : Nat := 10
noncomputable abbrev i_law_others : Nat := 11
noncomputable abbrev i_law_deed : Nat := 12
noncomputable abbrev i_first_wrong : Nat := 13
noncomputable abbrev i_or_none : Nat := 14
noncomputable abbrev i_fraction : Nat := 16
noncomputable abbrev i_is_less : Nat := 17
noncomputable abbrev i_sum_of : Nat := 18
noncomputable abbrev i_is_measure : Nat := 19
noncomputable abbrev i_is_name : Nat := 20
noncomputable abbrev i_common : Nat := 21
noncomputable abbrev i_plus : Nat := 22
noncomputable abbrev i_is_fraction : Nat := 23
noncomputable abbrev i_is_whole : Nat := 24
noncomputable def top (i : Nat) : Stmt := PySem.Challenge.pw_loafshares_k16_refusals_told_apart.main.body.getD i (.Pass ⟨0, 0, 0, 0⟩)
noncomputable def mtop (i j : Nat) : Stmt := (L4.clsBody (top i)).getD j (.Pass ⟨0, 0, 0, 0⟩)
theorem c_law {n : Nat} {ds : List D} {S : Sto} {Q : PoE} {E : PoX} (hl : ds.length = 1) (h : wpSs (wpCall pd n) pg none b_law (startD 2 ds) S { nx := fun _ S' => ∃ S2, Sto.le S2 S' ∧ Q .non S2, rt := fun d S' => ∃ S2, Sto.le S2 S' ∧ Q d S2, xc := fun x _ S' => ∃ S2, Sto.le S2 S' ∧ E x S2 }) : wpCall pd (n + 1) 0 ds none S Q E := ⟨⟨rfl, hl⟩, h⟩
theorem c_law_right {n : Nat} {ds : List D} {S : Sto} {Q : PoE} {E : PoX} (hl : ds.length = 1) (h : wpSs (wpCall pd n) pg none b_law_right (startD 13 ds) S { nx := fun _ S' => ∃ S2, Sto.le S2 S' ∧ Q .non S2, rt := fun d S' => ∃ S2, Sto.le S2 S' ∧ Q d S2, xc := fun x _ S' => ∃ S2, Sto.le S2 S' ∧ E x S2 }) : wpCall pd (n + 1) 1 ds none S Q E := ⟨⟨rfl, hl⟩, h⟩
theorem c_law_pot {n : Nat} {ds : List D} {S : Sto} {Q : PoE} {E : PoX} (hl : ds.length = 1) (h : wpSs (wpCall pd n) pg none b_law_pot (startD 1 ds) S { nx := fun _ S' => ∃ S2, Sto.le S2 S' ∧ Q .non S2, rt := fun d S' => ∃ S2, Sto.le S2 S' ∧ Q d S2, xc := fun x _ S' => ∃ S2, Sto.le S2 S' ∧ E x S2 }) : wpCall pd (n + 1) 2 ds none S Q E := ⟨⟨rfl, hl⟩, h⟩
theorem c_law_cell {n : Nat} {ds : List D} {S : Sto} {Q : PoE} {E : PoX} (hl : ds.length = 2) (h : wpSs (wpCall pd n) pg none b_law_cell (startD 2 ds) S { nx := fun _ S' => ∃ S2, Sto.le S2 S' ∧ Q .non S2, rt := fun d S' => ∃ S2, Sto.le S2 S' ∧ Q d S2, xc := fun x _ S' => ∃ S2, Sto.le S2 S' ∧ E x S2 }) : wpCall pd (n + 1) 3 ds none S Q E := ⟨⟨rfl, hl⟩, h⟩
theorem c_law_told {n : Nat} {ds : List D} {S : Sto} {Q : PoE} {E : PoX} (hl : ds.length = 3) (h : wpSs (wpCall pd n) pg none b_law_told (startD 5 ds) S { nx := fun _ S' => ∃ S2, Sto.le S2 S' ∧ Q .non S2, rt := fun d S' => ∃ S2, Sto.le S2 S' ∧ Q d S2, xc := fun x _ S' => ∃ S2, Sto.le S2 S' ∧ E x S2 }) : wpCall pd (n + 1) 4 ds none S Q E := ⟨⟨rfl, hl⟩, h⟩
theorem c_law_word {n : Nat} {ds : List D} {S : Sto} {Q : PoE} {E : PoX} (hl : ds.length = 1) (h : wpSs (wpCall pd n) pg none b_law_word (startD 6 ds) S { nx := fun _ S' => ∃ S2, Sto.le S2 S' ∧ Q .non S2, rt := fun d S' => ∃ S2, Sto.le S2 S' ∧ Q d S2, xc := fun x _ S' => ∃ S2, Sto.le S2 S' ∧ E x S2 }) : wpCall pd (n + 1) 5 ds none S Q E := ⟨⟨rfl, hl⟩, h⟩
theorem c_law_draw {n : Nat} {ds : List D} {S : Sto} {Q : PoE} {E : PoX} (hl : ds.length = 2) (h : wpSs (wpCall pd n) pg none b_law_draw (startD 3 ds) S { nx := fun _ S' => ∃ S2, Sto.le S2 S' ∧ Q .non S2, rt := fun d S' => ∃ S2, Sto.le S2 S' ∧ Q d S2, xc := fun x _ S' => ∃ S2, Sto.le S2 S' ∧ E x S2 }) : wpCall pd (n + 1) 6 ds none S Q E := ⟨⟨rfl, hl⟩, h⟩
theorem c_law_low {n : Nat} {ds : List D} {S : Sto} {Q : PoE} {E : PoX} (hl : ds.length = 2) (h : wpSs (wpCall pd n) pg none b_law_low (startD 4 ds) S { nx := fun _ S' => ∃ S2, Sto.le S2 S' ∧ Q .non S2, rt := fun d S' => ∃ S2, Sto.le S2 S' ∧ Q d S2, xc := fun x _ S' => ∃ S2, Sto.le S2 S' ∧ E x S2 }) : wpCall pd (n + 1) 7 ds none S Q E := ⟨⟨rfl, hl⟩, h⟩
theorem c_Stuff_measure {n : Nat} {ds : List D} {S : Sto} {Q : PoE} {E : PoX} (hl : ds.length = 2) (h : wpSs (wpCall pd n) pg none b_Stuff_measure (startD 2 ds) S { nx := fun _ S' => ∃ S2, Sto.le S2 S' ∧ Q .non S2, rt := fun d S' => ∃ S2, Sto.le S2 S' ∧ Q d S2, xc := fun x _ S' => ∃ S2, Sto.le S2 S' ∧ E x S2 }) : wpCall pd (n + 1) 8 ds none S Q E := ⟨⟨rfl, hl⟩, h⟩
theorem c_Stuff_init__ {n : Nat} {ds : List D} {S : Sto} {Q : PoE} {E : PoX} (hl : ds.length = 7) (h : wpSs (wpCall pd n) pg none b_Stuff_init__ (startD 10 ds) S { nx := fun _ S' => ∃ S2, Sto.le S2 S' ∧ Q .non S2, rt := fun d S' => ∃ S2, Sto.le S2 S' ∧ Q d S2, xc := fun x _ S' => ∃ S2, Sto.le S2 S' ∧ E x S2 }) : wpCall pd (n + 1) 9 ds none S Q E := ⟨⟨rfl, hl⟩, h⟩
theorem c_law_name {n : Nat} {ds : List D} {S : Sto} {Q : PoE} {E : PoX} (hl : ds.length = 2) (h : wpSs (wpCall pd n) pg none b_law_name (startD 8 ds) S { nx := fun _ S' => ∃ S2, Sto.le S2 S' ∧ Q .non S2, rt := fun d S' => ∃ S2, Sto.le S2 S' ∧ Q d S2, xc := fun x _ S' => ∃ S2, Sto.le S2 S' ∧ E x S2 }) : wpCall pd (n + 1) 10 ds none S Q E := ⟨⟨rfl, hl⟩, h⟩
theorem c_law_others {n : Nat} {ds : List D} {x : Exc} {S : Sto} {Q : PoE} {E : PoX} (hl : ds.length + 1 = 1) (h : wpSs (wpCall pd n) pg (some x) b_law_others (none :: startD 1 ds) S { nx := fun _ S' => ∃ S2, Sto.le S2 S' ∧ Q .non S2, rt := fun d S' => ∃ S2, Sto.le S2 S' ∧ Q d S2, xc := fun x _ S' => ∃ S2, Sto.le S2 S' ∧ E x S2 }) : wpCall pd (n + 1) 11 ds (some x) S Q E := ⟨⟨rfl, hl⟩, h⟩
theorem c_law_deed {n : Nat} {ds : List D} {S : Sto} {Q : PoE} {E : PoX} (hl : ds.length = 3) (h : wpSs (wpCall pd n) pg none b_law_deed (startD 3 ds) S { nx := fun _ S' => ∃ S2, Sto.le S2 S' ∧ Q .non S2, rt := fun d S' => ∃ S2, Sto.le S2 S' ∧ Q d S2, xc := fun x _ S' => ∃ S2, Sto.le S2 S' ∧ E x S2 }) : wpCall pd (n + 1) 12 ds none S Q E := ⟨⟨rfl, hl⟩, h⟩
theorem c_first_wrong {n : Nat} {ds : List D} {S : Sto} {Q : PoE} {E : PoX} (hl : ds.length = 2) (h : wpSs (wpCall pd n) pg none b_first_wrong (startD 4 ds) S { nx := fun _ S' => ∃ S2, Sto.le S2 S' ∧ Q .non S2, rt := fun d S' => ∃ S2, Sto.le S2 S' ∧ Q d S2, xc := fun x _ S' => ∃ S2, Sto.le S2 S' ∧ E x S2 }) : wpCall pd (n + 1) 13 ds none S Q E := ⟨⟨rfl, hl⟩, h⟩
theorem c_or_none {n : Nat} {ds : List D} {S : Sto} {Q : PoE} {E : PoX} (hl : ds.length = 1) (h : wpSs (wpCall pd n) pg none b_or_none (startD 1 ds) S { nx := fun _ S' => ∃ S2, Sto.le S2 S' ∧ Q .non S2, rt := fun d S' => ∃ S2, Sto.le S2 S' ∧ Q d S2, xc := fun x _ S' => ∃ S2, Sto.le S2 S' ∧ E x S2 }) : wpCall pd (n + 1) 14 ds none S Q E := ⟨⟨rfl, hl⟩, h⟩
theorem c_over {n : Nat} {ds : List D} {S : Sto} {Q : PoE} {E : PoX} (hl : ds.length = 2) (h : wpSs (wpCall pd n) pg none b_over (startD 2 ds) S { nx := fun _ S' => ∃ S2, Sto.le S2 S' ∧ Q .non S2, rt := fun d S' => ∃ S2, Sto.le S2 S' ∧ Q d S2, xc := fun x _ S' => ∃ S2, Sto.le S2 S' ∧ E x S2 }) : wpCall pd (n + 1) 15 ds none S Q E := ⟨⟨rfl, hl⟩, h⟩
theorem c_fraction {n : Nat} {ds : List D} {S : Sto} {Q : PoE} {E : PoX} (hl : ds.length = 2) (h : wpSs (wpCall pd n) pg none b_fraction (startD 3 ds) S { nx := fun _ S' => ∃ S2, Sto.le S2 S' ∧ Q .non S2, rt := fun d S' => ∃ S2, Sto.le S2 S' ∧ Q d S2, xc := fun x _ S' => ∃ S2, Sto.le S2 S' ∧ E x S2 }) : wpCall pd (n + 1) 16 ds none S Q E := ⟨⟨rfl, hl⟩, h⟩
theorem c_is_less {n : Nat} {ds : List D} {S : Sto} {Q : PoE} {E : PoX} (hl : ds.length = 2) (h : wpSs (wpCall pd n) pg none b_is_less (startD 2 ds) S { nx := fun _ S' => ∃ S2, Sto.le S2 S' ∧ Q .non S2, rt := fun d S' => ∃ S2, Sto.le S2 S' ∧ Q d S2, xc := fun x _ S' => ∃ S2, Sto.le S2 S' ∧ E x S2 }) : wpCall pd (n + 1) 17 ds none S Q E := ⟨⟨rfl, hl⟩, h⟩
theorem c_sum_of {n : Nat} {ds : List D} {S : Sto} {Q : PoE} {E : PoX} (hl : ds.length = 1) (h : wpSs (wpCall pd n) pg none b_sum_of (startD 3 ds) S { nx := fun _ S' => ∃ S2, Sto.le S2 S' ∧ Q .non S2, rt := fun d S' => ∃ S2, Sto.le S2 S' ∧ Q d S2, xc := fun x _ S' => ∃ S2, Sto.le S2 S' ∧ E x S2 }) : wpCall pd (n + 1) 18 ds none S Q E := ⟨⟨rfl, hl⟩, h⟩
theorem c_is_measure {n : Nat} {ds : List D} {S : Sto} {Q : PoE} {E : PoX} (hl : ds.length = 1) (h : wpSs (wpCall pd n) pg none b_is_measure (startD 1 ds) S { nx := fun _ S' => ∃ S2, Sto.le S2 S' ∧ Q .non S2, rt := fun d S' => ∃ S2, Sto.le S2 S' ∧ Q d S2, xc := fun x _ S' => ∃ S2, Sto.le S2 S' ∧ E x S2 }) : wpCall pd (n + 1) 19 ds none S Q E := ⟨⟨rfl, hl⟩, h⟩
theorem c_is_name {n : Nat} {ds : List D} {S : Sto} {Q : PoE} {E : PoX} (hl : ds.length = 1) (h : wpSs (wpCall pd n) pg none b_is_name (startD 2 ds) S { nx := fun _ S' => ∃ S2, Sto.le S2 S' ∧ Q .non S2, rt := fun d S' => ∃ S2, Sto.le S2 S' ∧ Q d S2, xc := fun x _ S' => ∃ S2, Sto.le S2 S' ∧ E x S2 }) : wpCall pd (n + 1) 20 ds none S Q E := ⟨⟨rfl, hl⟩, h⟩
theorem c_common {n : Nat} {ds : List D} {S : Sto} {Q : PoE} {E : PoX} (hl : ds.length = 2) (h : wpSs (wpCall pd n) pg none b_common (startD 2 ds) S { nx := fun _ S' => ∃ S2, Sto.le S2 S' ∧ Q .non S2, rt := fun d S' => ∃ S2, Sto.le S2 S' ∧ Q d S2, xc := fun x _ S' => ∃ S2, Sto.le S2 S' ∧ E x S2 }) : wpCall pd (n + 1) 21 ds none S Q E := ⟨⟨rfl, hl⟩, h⟩
theorem c_plus {n : Nat} {ds : List D} {S : Sto} {Q : PoE} {E : PoX} (hl : ds.length = 2) (h : wpSs (wpCall pd n) pg none b_plus (startD 2 ds) S { nx := fun _ S' => ∃ S2, Sto.le S2 S' ∧ Q .non S2, rt := fun d S' => ∃ S2, Sto.le S2 S' ∧ Q d S2, xc := fun x _ S' => ∃ S2, Sto.le S2 S' ∧ E x S2 }) : wpCall pd (n + 1) 22 ds none S Q E := ⟨⟨rfl, hl⟩, h⟩
theorem c_is_fraction {n : Nat} {ds : List D} {S : Sto} {Q : PoE} {E : PoX} (hl : ds.length = 1) (h : wpSs (wpCall pd n) pg none b_is_fraction (startD 2 ds) S { nx := fun _ S' => ∃ S2, Sto.le S2 S' ∧ Q .non S2, rt := fun d S' => ∃ S2, Sto.le S2 S' ∧ Q d S2, xc := fun x _ S' => ∃ S2, Sto.le S2 S' ∧ E x S2 }) : wpCall pd (n + 1) 23 ds none S Q E := ⟨⟨rfl, hl⟩, h⟩
theorem c_is_whole {n : Nat} {ds : List D} {S : Sto} {Q : PoE} {E : PoX} (hl : ds.length = 1) (h : wpSs (wpCall pd n) pg none b_is_whole (startD 1 ds) S { nx := fun _ S' => ∃ S2, Sto.le S2 S' ∧ Q .non S2, rt := fun d S' => ∃ S2, Sto.le S2 S' ∧ Q d S2, xc := fun x _ S' => ∃ S2, Sto.le S2 S' ∧ E x S2 }) : wpCall pd (n + 1) 24 ds none S Q E := ⟨⟨rfl, hl⟩, h⟩
theorem sc_law : FnScope f_law.N f_law.ps (defScope (top 60)) := ⟨rfl, rfl, rfl, by decide +kernel, rfl, by decide +kernel, by decide +kernel⟩
theorem ck_law : chkSs pd (ctOf f_law (defScope (top 60))) f_law.body (defBody (top 60)) = true := by decide +kernel
theorem sc_law_right : FnScope f_law_right.N f_law_right.ps (defScope (top 59)) := ⟨rfl, rfl, rfl, by decide +kernel, rfl, by decide +kernel, by decide +kernel⟩
theorem ck_law_right : chkSs pd (ctOf f_law_right (defScope (top 59))) f_law_right.body (defBody (top 59)) = true := by decide +kernel
theorem sc_law_pot : FnScope f_law_pot.N f_law_pot.ps (defScope (top 51)) := ⟨rfl, rfl, rfl, by decide +kernel, rfl, by decide +kernel, by decide +kernel⟩
theorem ck_law_pot : chkSs pd (ctOf f_law_pot (defScope (top 51))) f_law_pot.body (defBody (top 51)) = true := by decide +kernel
theorem sc_law_cell : FnScope f_law_cell.N f_law_cell.ps (defScope (top 50)) := ⟨rfl, rfl, rfl, by decide +kernel, rfl, by decide +kernel, by decide +kernel⟩
theorem ck_law_cell : chkSs pd (ctOf f_law_cell (defScope (top 50))) f_law_cell.body (defBody (top 50)) = true := by decide +kernel
theorem sc_law_told : FnScope f_law_told.N f_law_told.ps (defScope (top 57)) := ⟨rfl, rfl, rfl, by decide +kernel, rfl, by decide +kernel, by decide +kernel⟩
theorem ck_law_told : chkSs pd (ctOf f_law_told (defScope (top 57))) f_law_told.body (defBody (top 57)) = true := by decide +kernel
theorem sc_law_word : FnScope f_law_word.N f_law_word.ps (defScope (top 58)) := ⟨rfl, rfl, rfl, by decide +kernel, rfl, by decide +kernel, by decide +kernel⟩
theorem ck_law_word : chkSs pd (ctOf f_law_word (defScope (top 58))) f_law_word.body (defBody (top 58)) = true := by decide +kernel
theorem sc_law_draw : FnScope f_law_draw.N f_law_draw.ps (defScope (top 52)) := ⟨rfl, rfl, rfl, by decide +kernel, rfl, by decide +kernel, by decide +kernel⟩
theorem ck_law_draw : chkSs pd (ctOf f_law_draw (defScope (top 52))) f_law_draw.body (defBody (top 52)) = true := by decide +kernel
theorem sc_law_low : FnScope f_law_low.N f_law_low.ps (defScope (top 53)) := ⟨rfl, rfl, rfl, by decide +kernel, rfl, by decide +kernel, by decide +kernel⟩
theorem ck_law_low : chkSs pd (ctOf f_law_low (defScope (top 53))) f_law_low.body (defBody (top 53)) = true := by decide +kernel
theorem sc_Stuff_measure : FnScope f_Stuff_measure.N f_Stuff_measure.ps (defScope (mtop 48 7)) := ⟨rfl, rfl, rfl, by decide +kernel, rfl, by decide +kernel, by decide +kernel⟩
theorem ck_Stuff_measure : chkSs pd (ctOf f_Stuff_measure (defScope (mtop 48 7))) f_Stuff_measure.body (defBody (mtop 48 7)) = true := by decide +kernel
theorem sc_Stuff_init__ : FnScope f_Stuff_init__.N f_Stuff_init__.ps (defScope (mtop 48 0)) := ⟨rfl, rfl, rfl, by decide +kernel, rfl, by decide +kernel, by decide +kernel⟩
theorem ck_Stuff_init__ : chkSs pd (ctOf f_Stuff_init__ (defScope (mtop 48 0))) f_Stuff_init__.body (defBody (mtop 48 0)) = true := by decide +kernel
theorem sc_law_name : FnScope f_law_name.N f_law_name.ps (defScope (top 54)) := ⟨rfl, rfl, rfl, by decide +kernel, rfl, by decide +kernel, by decide +kernel⟩
theorem ck_law_name : chkSs pd (ctOf f_law_name (defScope (top 54))) f_law_name.body (defBody (top 54)) = true := by decide +kernel
theorem sc_law_others : FnScope f_law_others.N f_law_others.ps (defScope (top 55)) := ⟨rfl, rfl, rfl, by decide +kernel, rfl, by decide +kernel, by decide +kernel⟩
theorem ck_law_others : chkSs pd (ctOf f_law_others (defScope (top 55))) f_law_others.body (defBody (top 55)) = true := by decide +kernel
theorem sc_law_deed : FnScope f_law_deed.N f_law_deed.ps (defScope (top 56)) := ⟨rfl, rfl, rfl, by decide +kernel, rfl, by decide +kernel, by decide +kernel⟩
theorem ck_law_deed : chkSs pd (ctOf f_law_deed (defScope (top 56))) f_law_deed.body (defBody (top 56)) = true := by decide +kernel
theorem sc_first_wrong : FnScope f_first_wrong.N f_first_wrong.ps (defScope (top 47)) := ⟨rfl, rfl, rfl, by decide +kernel, rfl, by decide +kernel, by decide +kernel⟩
theorem ck_first_wrong : chkSs pd (ctOf f_first_wrong (defScope (top 47))) f_first_wrong.body (defBody (top 47)) = true := by decide +kernel
theorem sc_or_none : FnScope f_or_none.N f_or_none.ps (defScope (top 45)) := ⟨rfl, rfl, rfl, by decide +kernel, rfl, by decide +kernel, by decide +kernel⟩
theorem ck_or_none : chkSs pd (ctOf f_or_none (defScope (top 45))) f_or_none.body (defBody (top 45)) = true := by decide +kernel
theorem sc_over : FnScope f_over.N f_over.ps (defScope (top 37)) := ⟨rfl, rfl, rfl, by decide +kernel, rfl, by decide +kernel, by decide +kernel⟩
theorem ck_over : chkSs pd (ctOf f_over (defScope (top 37))) f_over.body (defBody (top 37)) = true := by decide +kernel
theorem sc_fraction : FnScope f_fraction.N f_fraction.ps (defScope (top 35)) := ⟨rfl, rfl, rfl, by decide +kernel, rfl, by decide +kernel, by decide +kernel⟩
theorem ck_fraction : chkSs pd (ctOf f_fraction (defScope (top 35))) f_fraction.body (defBody (top 35)) = true := by decide +kernel
theorem sc_is_less : FnScope f_is_less.N f_is_less.ps (defScope (top 38)) := ⟨rfl, rfl, rfl, by decide +kernel, rfl, by decide +kernel, by decide +kernel⟩
theorem ck_is_less : chkSs pd (ctOf f_is_less (defScope (top 38))) f_is_less.body (defBody (top 38)) = true := by decide +kernel
theorem sc_sum_of : FnScope f_sum_of.N f_sum_of.ps (defScope (top 39)) := ⟨rfl, rfl, rfl, by decide +kernel, rfl, by decide +kernel, by decide +kernel⟩
theorem ck_sum_of : chkSs pd (ctOf f_sum_of (defScope (top 39))) f_sum_of.body (defBody (top 39)) = true := by decide +kernel
theorem sc_is_measure : FnScope f_is_measure.N f_is_measure.ps (defScope (top 46)) := ⟨rfl, rfl, rfl, by decide +kernel, rfl, by decide +kernel, by decide +kernel⟩
theorem ck_is_measure : chkSs pd (ctOf f_is_measure (defScope (top 46))) f_is_measure.body (defBody (top 46)) = true := by decide +kernel
theorem sc_is_name : FnScope f_is_name.N f_is_name.ps (defScope (top 42)) := ⟨rfl, rfl, rfl, by decide +kernel, rfl, by decide +kernel, by decide +kernel⟩
theorem ck_is_name : chkSs pd (ctOf f_is_name (defScope (top 42))) f_is_name.body (defBody (top 42)) = true := by decide +kernel
theorem sc_common : FnScope f_common.N f_common.ps (defScope (top 34)) := ⟨rfl, rfl, rfl, by decide +kernel, rfl, by decide +kernel, by decide +kernel⟩
theorem ck_common : chkSs pd (ctOf f_common (defScope (top 34))) f_common.body (defBody (top 34)) = true := by decide +kernel
theorem sc_plus : FnScope f_plus.N f_plus.ps (defScope (top 36)) := ⟨rfl, rfl, rfl, by decide +kernel, rfl, by decide +kernel, by decide +kernel⟩
theorem ck_plus : chkSs pd (ctOf f_plus (defScope (top 36))) f_plus.body (defBody (top 36)) = true := by decide +kernel
theorem sc_is_fraction : FnScope f_is_fraction.N f_is_fraction.ps (defScope (top 41)) := ⟨rfl, rfl, rfl, by decide +kernel, rfl, by decide +kernel, by decide +kernel⟩
theorem ck_is_fraction : chkSs pd (ctOf f_is_fraction (defScope (top 41))) f_is_fraction.body (defBody (top 41)) = true := by decide +kernel
theorem sc_is_whole : FnScope f_is_whole.N f_is_whole.ps (defScope (top 40)) := ⟨rfl, rfl, rfl, by decide +kernel, rfl, by decide +kernel, by decide +kernel⟩
theorem ck_is_whole : chkSs pd (ctOf f_is_whole (defScope (top 40))) f_is_whole.body (defBody (top 40)) = true := by decide +kernel
end Q16

namespace Q16
open PySem PySem.Spec PyProof.Rows L2 L4
theorem isc_NoStuff : FnScope ["self", "field"] ["self", "field"] (defScope (mtop 3 0)) := ⟨rfl, rfl, rfl, by decide +kernel, rfl, by decide +kernel, by decide +kernel⟩
theorem ick_NoStuff : initB "LoafError" "self" ["field"] (defScope (mtop 3 0)) (defBody (mtop 3 0)) = true := by decide +kernel
theorem isc_NoName : FnScope ["self", "who"] ["self", "who"] (defScope (mtop 8 0)) := ⟨rfl, rfl, rfl, by decide +kernel, rfl, by decide +kernel, by decide +kernel⟩
theorem ick_NoName : initB "LoafError" "self" ["who"] (defScope (mtop 8 0)) (defBody (mtop 8 0)) = true := by decide +kernel
theorem isc_Unknown : FnScope ["self", "where", "who"] ["self", "where", "who"] (defScope (mtop 12 0)) := ⟨rfl, rfl, rfl, by decide +kernel, rfl, by decide +kernel, by decide +kernel⟩
theorem ick_Unknown : initB "LoafError" "self" ["where", "who"] (defScope (mtop 12 0)) (defBody (mtop 12 0)) = true := by decide +kernel
theorem isc_Uneven : FnScope ["self", "told"] ["self", "told"] (defScope (mtop 14 0)) := ⟨rfl, rfl, rfl, by decide +kernel, rfl, by decide +kernel, by decide +kernel⟩
theorem ick_Uneven : initB "LoafError" "self" ["told"] (defScope (mtop 14 0)) (defBody (mtop 14 0)) = true := by decide +kernel
theorem isc_Twice : FnScope ["self", "who"] ["self", "who"] (defScope (mtop 7 0)) := ⟨rfl, rfl, rfl, by decide +kernel, rfl, by decide +kernel, by decide +kernel⟩
theorem ick_Twice : initB "LoafError" "self" ["who"] (defScope (mtop 7 0)) (defBody (mtop 7 0)) = true := by decide +kernel
theorem isc_Short : FnScope ["self", "who", "missing"] ["self", "who", "missing"] (defScope (mtop 15 0)) := ⟨rfl, rfl, rfl, by decide +kernel, rfl, by decide +kernel, by decide +kernel⟩
theorem ick_Short : initB "LoafError" "self" ["who", "missing"] (defScope (mtop 15 0)) (defBody (mtop 15 0)) = true := by decide +kernel
theorem isc_Ring : FnScope ["self", "names"] ["self", "names"] (defScope (mtop 13 0)) := ⟨rfl, rfl, rfl, by decide +kernel, rfl, by decide +kernel, by decide +kernel⟩
theorem ick_Ring : initB "LoafError" "self" ["names"] (defScope (mtop 13 0)) (defBody (mtop 13 0)) = true := by decide +kernel
theorem isc_NoPan : FnScope ["self", "field"] ["self", "field"] (defScope (mtop 5 0)) := ⟨rfl, rfl, rfl, by decide +kernel, rfl, by decide +kernel, by decide +kernel⟩
theorem ick_NoPan : initB "LoafError" "self" ["field"] (defScope (mtop 5 0)) (defBody (mtop 5 0)) = true := by decide +kernel
theorem isc_NoOrder : FnScope ["self", "field"] ["self", "field"] (defScope (mtop 6 0)) := ⟨rfl, rfl, rfl, by decide +kernel, rfl, by decide +kernel, by decide +kernel⟩
theorem ick_NoOrder : initB "LoafError" "self" ["field"] (defScope (mtop 6 0)) (defBody (mtop 6 0)) = true := by decide +kernel
theorem isc_NoFlour : FnScope ["self", "who"] ["self", "who"] (defScope (mtop 9 0)) := ⟨rfl, rfl, rfl, by decide +kernel, rfl, by decide +kernel, by decide +kernel⟩
theorem ick_NoFlour : initB "LoafError" "self" ["who"] (defScope (mtop 9 0)) (defBody (mtop 9 0)) = true := by decide +kernel
theorem isc_NoFeel : FnScope ["self", "who"] ["self", "who"] (defScope (mtop 10 0)) := ⟨rfl, rfl, rfl, by decide +kernel, rfl, by decide +kernel, by decide +kernel⟩
theorem ick_NoFeel : initB "LoafError" "self" ["who"] (defScope (mtop 10 0)) (defBody (mtop 10 0)) = true := by decide +kernel
theorem isc_NoDough : FnScope ["self", "field"] ["self", "field"] (defScope (mtop 4 0)) := ⟨rfl, rfl, rfl, by decide +kernel, rfl, by decide +kernel, by decide +kernel⟩
theorem ick_NoDough : initB "LoafError" "self" ["field"] (defScope (mtop 4 0)) (defBody (mtop 4 0)) = true := by decide +kernel
theorem isc_Late : FnScope ["self", "by"] ["self", "by"] (defScope (mtop 26 0)) := ⟨rfl, rfl, rfl, by decide +kernel, rfl, by decide +kernel, by decide +kernel⟩
theorem ick_Late : initB "LoafError" "self" ["by"] (defScope (mtop 26 0)) (defBody (mtop 26 0)) = true := by decide +kernel
theorem isc_Dry : FnScope ["self", "who"] ["self", "who"] (defScope (mtop 11 0)) := ⟨rfl, rfl, rfl, by decide +kernel, rfl, by decide +kernel, by decide +kernel⟩
theorem ick_Dry : initB "LoafError" "self" ["who"] (defScope (mtop 11 0)) (defBody (mtop 11 0)) = true := by decide +kernel
theorem facts {K : PySem.W.Frag} {h : Heap} {mg : Str → Option Value} (X : K.In h) (Gn : h.Ns mainGlobals mg)
    {f0 f1 f2 f3 f4 f5 f6 f7 f8 f9 f10 f11 f12 f13 f14 f15 f16 f17 f18 f19 f20 f21 f22 f23 f24 c0 c1 c2 c3 c4 c5 c6 c7 c8 c9 c10 c11 c12 c13 c14 c15 c16 c17 c18 c19 c20 c21 c22 c23 c24 c25 c26 c27 c28 g2 g3 g5 g6 g7 g9 g10 g18 g19 g21 g22 g23 g26 g28 : Addr}
    {od0 an0 od1 an1 od2 an2 od3 an3 od4 an4 od5 an5 od6 an6 od7 an7 od8 an8 od9 an9 od10 an10 od11 an11 od12 an12 od13 an13 od14 an14 od15 an15 od16 an16 od17 an17 od18 an18 od19 an19 od20 an20 od21 an21 od22 an22 od23 an23 od24 an24 odi2 ani2 odi3 ani3 odi5 ani5 odi6 ani6 odi7 ani7 odi9 ani9 odi10 ani10 odi18 ani18 odi19 ani19 odi21 ani21 odi22 ani22 odi23 ani23 odi26 ani26 odi28 ani28 : Option Addr} {sl0 sl1 sl2 sl3 sl4 sl5 sl6 sl7 sl8 sl9 sl10 sl11 sl12 sl13 sl14 sl15 sl16 sl17 sl18 sl19 sl20 sl21 sl22 sl23 sl24 sli2 sli3 sli5 sli6 sli7 sli9 sli10 sli18 sli19 sli21 sli22 sli23 sli26 sli28 : Array (Option Value)} {oc0 kV0 dc0 pm0 cd0 ct0 oc1 kV1 dc1 pm1 cd1 ct1 oc2 kV2 dc2 pm2 cd2 ct2 oc3 kV3 dc3 pm3 cd3 ct3 oc4 kV4 dc4 pm4 cd4 ct4 oc5 kV5 dc5 pm5 cd5 ct5 oc6 kV6 dc6 pm6 cd6 ct6 oc7 kV7 dc7 pm7 cd7 ct7 oc8 kV8 dc8 pm8 cd8 ct8 oc9 kV9 dc9 pm9 cd9 ct9 oc10 kV10 dc10 pm10 cd10 ct10 oc11 kV11 dc11 pm11 cd11 ct11 oc12 kV12 dc12 pm12 cd12 ct12 oc13 kV13 dc13 pm13 cd13 ct13 oc14 kV14 dc14 pm14 cd14 ct14 oc15 kV15 dc15 pm15 cd15 ct15 oc16 kV16 dc16 pm16 cd16 ct16 oc17 kV17 dc17 pm17 cd17 ct17 oc18 kV18 dc18 pm18 cd18 ct18 oc19 kV19 dc19 pm19 cd19 ct19 oc20 kV20 dc20 pm20 cd20 ct20 oc21 kV21 dc21 pm21 cd21 ct21 oc22 kV22 dc22 pm22 cd22 ct22 oc23 kV23 dc23 pm23 cd23 ct23 oc24 kV24 dc24 pm24 cd24 ct24 oci2 kVi2 dci2 pmi2 cdi2 cti2 oci3 kVi3 dci3 pmi3 cdi3 cti3 oci5 kVi5 dci5 pmi5 cdi5 cti5 oci6 kVi6 dci6 pmi6 cdi6 cti6 oci7 kVi7 dci7 pmi7 cdi7 cti7 oci9 kVi9 dci9 pmi9 cdi9 cti9 oci10 kVi10 dci10 pmi10 cdi10 cti10 oci18 kVi18 dci18 pmi18 cdi18 cti18 oci19 kVi19 dci19 pmi19 cdi19 cti19 oci21 kVi21 dci21 pmi21 cdi21 cti21 oci22 kVi22 dci22 pmi22 cdi22 cti22 oci23 kVi23 dci23 pmi23 cdi23 cti23 oci26 kVi26 dci26 pmi26 cdi26 cti26 oci28 kVi28 dci28 pmi28 cdi28 cti28 : Value}
    {u0 u1 u2 u3 u4 : Value}
    {t9 : Addr} {to9 : Value} {td9 : Option Addr} {ta9 : Array Value} {tn9 : Nat} {ts9 : Array (Option Value)}
    (ca0 : PySem.W.nsIn K mainGlobals "Stuff" = some (some (.ref c0)))
    (ca1 : PySem.W.nsIn K mainGlobals "LoafError" = some (some (.ref c1)))
    (ca2 : PySem.W.nsIn K mainGlobals "NoStuff" = some (some (.ref c2)))
    (ca3 : PySem.W.nsIn K mainGlobals "NoName" = some (some (.ref c3)))
    (ca4 : PySem.W.nsIn K mainGlobals "NoFraction" = some (some (.ref c4)))
    (ca5 : PySem.W.nsIn K mainGlobals "Unknown" = some (some (.ref c5)))
    (ca6 : PySem.W.nsIn K mainGlobals "Uneven" = some (some (.ref c6)))
    (ca7 : PySem.W.nsIn K mainGlobals "Twice" = some (some (.ref c7)))
    (ca8 : PySem.W.nsIn K mainGlobals "TooLittle" = some (some (.ref c8)))
    (ca9 : PySem.W.nsIn K mainGlobals "Short" = some (some (.ref c9)))
    (ca10 : PySem.W.nsIn K mainGlobals "Ring" = some (some (.ref c10)))
    (ca11 : PySem.W.nsIn K mainGlobals "NoWhole" = some (some (.ref c11)))
    (ca12 : PySem.W.nsIn K mainGlobals "NoWeights" = some (some (.ref c12)))
    (ca13 : PySem.W.nsIn K mainGlobals "NoWeight" = some (some (.ref c13)))
    (ca14 : PySem.W.nsIn K mainGlobals "NoText" = some (some (.ref c14)))
    (ca15 : PySem.W.nsIn K mainGlobals "NoTaken" = some (some (.ref c15)))
    (ca16 : PySem.W.nsIn K mainGlobals "NoStep" = some (some (.ref c16)))
    (ca17 : PySem.W.nsIn K mainGlobals "NoRow" = some (some (.ref c17)))
    (ca18 : PySem.W.nsIn K mainGlobals "NoPan" = some (some (.ref c18)))
    (ca19 : PySem.W.nsIn K mainGlobals "NoOrder" = some (some (.ref c19)))
    (ca20 : PySem.W.nsIn K mainGlobals "NoHour" = some (some (.ref c20)))
    (ca21 : PySem.W.nsIn K mainGlobals "NoFlour" = some (some (.ref c21)))
    (ca22 : PySem.W.nsIn K mainGlobals "NoFeel" = some (some (.ref c22)))
    (ca23 : PySem.W.nsIn K mainGlobals "NoDough" = some (some (.ref c23)))
    (ca24 : PySem.W.nsIn K mainGlobals "NoCount" = some (some (.ref c24)))
    (ca25 : PySem.W.nsIn K mainGlobals "NoBy" = some (some (.ref c25)))
    (ca26 : PySem.W.nsIn K mainGlobals "Late" = some (some (.ref c26)))
    (ca27 : PySem.W.nsIn K mainGlobals "Lacking" = some (some (.ref c27)))
    (ca28 : PySem.W.nsIn K mainGlobals "Dry" = some (some (.ref c28)))
    (a0 : PySem.W.nsIn K mainGlobals "law" = some (some (.ref f0)))
    (l0 : K.lookup f0 = some ⟨oc0, od0, .func (PySem.W.fnOf "law" "law" (defArgs (top 60)) (defBody (top 60)) (defScope (top 60)) .none kV0 dc0 pm0 an0 cd0 ct0), sl0⟩)
    (d0 : PySem.W.codeIn K cd0 "law" = true)
    (k0 : PySem.W.keepIn K (.ref f0) = true)
    (a1 : PySem.W.nsIn K mainGlobals "_law_right" = some (some (.ref f1)))
    (l1 : K.lookup f1 = some ⟨oc1, od1, .func (PySem.W.fnOf "_law_right" "_law_right" (defArgs (top 59)) (defBody (top 59)) (defScope (top 59)) .none kV1 dc1 pm1 an1 cd1 ct1), sl1⟩)
    (d1 : PySem.W.codeIn K cd1 "_law_right" = true)
    (k1 : PySem.W.keepIn K (.ref f1) = true)
    (a2 : PySem.W.nsIn K mainGlobals "_law_pot" = some (some (.ref f2)))
    (l2 : K.lookup f2 = some ⟨oc2, od2, .func (PySem.W.fnOf "_law_pot" "_law_pot" (defArgs (top 51)) (defBody (top 51)) (defScope (top 51)) .none kV2 dc2 pm2 an2 cd2 ct2), sl2⟩)
    (d2 : PySem.W.codeIn K cd2 "_law_pot" = true)
    (k2 : PySem.W.keepIn K (.ref f2) = true)
    (a3 : PySem.W.nsIn K mainGlobals "_law_cell" = some (some (.ref f3)))
    (l3 : K.lookup f3 = some ⟨oc3, od3, .func (PySem.W.fnOf "_law_cell" "_law_cell" (defArgs (top 50)) (defBody (top 50)) (defScope (top 50)) .none kV3 dc3 pm3 an3 cd3 ct3), sl3⟩)
    (d3 : PySem.W.codeIn K cd3 "_law_cell" = true)
    (k3 : PySem.W.keepIn K (.ref f3) = true)
    (a4 : PySem.W.nsIn K mainGlobals "_law_told" = some (some (.ref f4)))
    (l4 : K.lookup f4 = some ⟨oc4, od4, .func (PySem.W.fnOf "_law_told" "_law_told" (defArgs (top 57)) (defBody (top 57)) (defScope (top 57)) .none kV4 dc4 pm4 an4 cd4 ct4), sl4⟩)
    (d4 : PySem.W.codeIn K cd4 "_law_told" = true)
    (k4 : PySem.W.keepIn K (.ref f4) = true)
    (a5 : PySem.W.nsIn K mainGlobals "_law_word" = some (some (.ref f5)))
    (l5 : K.lookup f5 = some ⟨oc5, od5, .func (PySem.W.fnOf "_law_word" "_law_word" (defArgs (top 58)) (defBody (top 58)) (defScope (top 58)) .none kV5 dc5 pm5 an5 cd5 ct5), sl5⟩)
    (d5 : PySem.W.codeIn K cd5 "_law_word" = true)
    (k5 : PySem.W.keepIn K (.ref f5) = true)
    (a6 : PySem.W.nsIn K mainGlobals "_law_draw" = some (some (.ref f6)))
    (l6 : K.lookup f6 = some ⟨oc6, od6, .func (PySem.W.fnOf "_law_draw" "_law_draw" (defArgs (top 52)) (defBody (top 52)) (defScope (top 52)) .none kV6 dc6 pm6 an6 cd6 ct6), sl6⟩)
    (d6 : PySem.W.codeIn K cd6 "_law_draw" = true)
    (k6 : PySem.W.keepIn K (.ref f6) = true)
    (a7 : PySem.W.nsIn K mainGlobals "_law_low" = some (some (.ref f7)))
    (l7 : K.lookup f7 = some ⟨oc7, od7, .func (PySem.W.fnOf "_law_low" "_law_low" (defArgs (top 53)) (defBody (top 53)) (defScope (top 53)) .none kV7 dc7 pm7 an7 cd7 ct7), sl7⟩)
    (d7 : PySem.W.codeIn K cd7 "_law_low" = true)
    (k7 : PySem.W.keepIn K (.ref f7) = true)
    (a8 : PySem.W.findIn K (.ref c0) "measure" = some (some (.ref f8)))
    (l8 : K.lookup f8 = some ⟨oc8, od8, .func (PySem.W.fnOf "measure" "Stuff.measure" (defArgs (mtop 48 7)) (defBody (mtop 48 7)) (defScope (mtop 48 7)) .none kV8 dc8 pm8 an8 cd8 ct8), sl8⟩)
    (d8 : PySem.W.codeIn K cd8 "Stuff.measure" = true)
    (k8 : PySem.W.keepIn K (.ref f8) = true)
    (a9 : PySem.W.findIn K (.ref c0) "__init__" = some (some (.ref f9)))
    (l9 : K.lookup f9 = some ⟨oc9, od9, .func (PySem.W.fnOf "__init__" "Stuff.__init__" (defArgs (mtop 48 0)) (defBody (mtop 48 0)) (defScope (mtop 48 0)) (.ref t9) kV9 dc9 pm9 an9 cd9 ct9), sl9⟩)
    (d9 : PySem.W.codeIn K cd9 "Stuff.__init__" = true)
    (tl9 : K.lookup t9 = some ⟨to9, td9, .seq ta9 tn9, ts9⟩)
    (tv9 : konB.konBs K 9 [.non, .non, .non, .non, .non] ta9.toList = true)
    (k9 : PySem.W.keepIn K (.ref f9) = true)
    (a10 : PySem.W.nsIn K mainGlobals "_law_name" = some (some (.ref f10)))
    (l10 : K.lookup f10 = some ⟨oc10, od10, .func (PySem.W.fnOf "_law_name" "_law_name" (defArgs (top 54)) (defBody (top 54)) (defScope (top 54)) .none kV10 dc10 pm10 an10 cd10 ct10), sl10⟩)
    (d10 : PySem.W.codeIn K cd10 "_law_name" = true)
    (k10 : PySem.W.keepIn K (.ref f10) = true)
    (a11 : PySem.W.nsIn K mainGlobals "_law_others" = some (some (.ref f11)))
    (l11 : K.lookup f11 = some ⟨oc11, od11, .func (PySem.W.fnOf "_law_others" "_law_others" (defArgs (top 55)) (defBody (top 55)) (defScope (top 55)) .none kV11 dc11 pm11 an11 cd11 ct11), sl11⟩)
    (d11 : PySem.W.codeIn K cd11 "_law_others" = true)
    (k11 : PySem.W.keepIn K (.ref f11) = true)
    (a12 : PySem.W.nsIn K mainGlobals "_law_deed" = some (some (.ref f12)))
    (l12 : K.lookup f12 = some ⟨oc12, od12, .func (PySem.W.fnOf "_law_deed" "_law_deed" (defArgs (top 56)) (defBody (top 56)) (defScope (top 56)) .none kV12 dc12 pm12 an12 cd12 ct12), sl12⟩)
    (d12 : PySem.W.codeIn K cd12 "_law_deed" = true)
    (k12 : PySem.W.keepIn K (.ref f12) = true)
    (a13 : PySem.W.nsIn K mainGlobals "first_wrong" = some (some (.ref f13)))
    (l13 : K.lookup f13 = some ⟨oc13, od13, .func (PySem.W.fnOf "first_wrong" "first_wrong" (defArgs (top 47)) (defBody (top 47)) (defScope (top 47)) .none kV13 dc13 pm13 an13 cd13 ct13), sl13⟩)
    (d13 : PySem.W.codeIn K cd13 "first_wrong" = true)
    (k13 : PySem.W.keepIn K (.ref f13) = true)
    (a14 : PySem.W.nsIn K mainGlobals "or_none" = some (some (.ref f14)))
    (l14 : K.lookup f14 = some ⟨oc14, od14, .func (PySem.W.fnOf "or_none" "or_none" (defArgs (top 45)) (defBody (top 45)) (defScope (top 45)) .none kV14 dc14 pm14 an14 cd14 ct14), sl14⟩)
    (d14 : PySem.W.codeIn K cd14 "or_none" = true)
    (k14 : PySem.W.keepIn K (.ref f14) = true)
    (a15 : PySem.W.nsIn K mainGlobals "over" = some (some (.ref f15)))
    (l15 : K.lookup f15 = some ⟨oc15, od15, .func (PySem.W.fnOf "over" "over" (defArgs (top 37)) (defBody (top 37)) (defScope (top 37)) .none kV15 dc15 pm15 an15 cd15 ct15), sl15⟩)
    (d15 : PySem.W.codeIn K cd15 "over" = true)
    (k15 : PySem.W.keepIn K (.ref f15) = true)
    (a16 : PySem.W.nsIn K mainGlobals "fraction" = some (some (.ref f16)))
    (l16 : K.lookup f16 = some ⟨oc16, od16, .func (PySem.W.fnOf "fraction" "fraction" (defArgs (top 35)) (defBody (top 35)) (defScope (top 35)) .none kV16 dc16 pm16 an16 cd16 ct16), sl16⟩)
    (d16 : PySem.W.codeIn K cd16 "fraction" = true)
    (k16 : PySem.W.keepIn K (.ref f16) = true)
    (a17 : PySem.W.nsIn K mainGlobals "is_less" = some (some (.ref f17)))
    (l17 : K.lookup f17 = some ⟨oc17, od17, .func (PySem.W.fnOf "is_less" "is_less" (defArgs (top 38)) (defBody (top 38)) (defScope (top 38)) .none kV17 dc17 pm17 an17 cd17 ct17), sl17⟩)
    (d17 : PySem.W.codeIn K cd17 "is_less" = true)
    (k17 : PySem.W.keepIn K (.ref f17) = true)
    (a18 : PySem.W.nsIn K mainGlobals "sum_of" = some (some (.ref f18)))
    (l18 : K.lookup f18 = some ⟨oc18, od18, .func (PySem.W.fnOf "sum_of" "sum_of" (defArgs (top 39)) (defBody (top 39)) (defScope (top 39)) .none kV18 dc18 pm18 an18 cd18 ct18), sl18⟩)
    (d18 : PySem.W.codeIn K cd18 "sum_of" = true)
    (k18 : PySem.W.keepIn K (.ref f18) = true)
    (a19 : PySem.W.nsIn K mainGlobals "is_measure" = some (some (.ref f19)))
    (l19 : K.lookup f19 = some ⟨oc19, od19, .func (PySem.W.fnOf "is_measure" "is_measure" (defArgs (top 46)) (defBody (top 46)) (defScope (top 46)) .none kV19 dc19 pm19 an19 cd19 ct19), sl19⟩)
    (d19 : PySem.W.codeIn K cd19 "is_measure" = true)
    (k19 : PySem.W.keepIn K (.ref f19) = true)
    (a20 : PySem.W.nsIn K mainGlobals "is_name" = some (some (.ref f20)))
    (l20 : K.lookup f20 = some ⟨oc20, od20, .func (PySem.W.fnOf "is_name" "is_name" (defArgs (top 42)) (defBody (top 42)) (defScope (top 42)) .none kV20 dc20 pm20 an20 cd20 ct20), sl20⟩)
    (d20 : PySem.W.codeIn K cd20 "is_name" = true)
    (k20 : PySem.W.keepIn K (.ref f20) = true)
    (a21 : PySem.W.nsIn K mainGlobals "common" = some (some (.ref f21)))
    (l21 : K.lookup f21 = some ⟨oc21, od21, .func (PySem.W.fnOf "common" "common" (defArgs (top 34)) (defBody (top 34)) (defScope (top 34)) .none kV21 dc21 pm21 an21 cd21 ct21), sl21⟩)
    (d21 : PySem.W.codeIn K cd21 "common" = true)
    (k21 : PySem.W.keepIn K (.ref f21) = true)
    (a22 : PySem.W.nsIn K mainGlobals "plus" = some (some (.ref f22)))
    (l22 : K.lookup f22 = some ⟨oc22, od22, .func (PySem.W.fnOf "plus" "plus" (defArgs (top 36)) (defBody (top 36)) (defScope (top 36)) .none kV22 dc22 pm22 an22 cd22 ct22), sl22⟩)
    (d22 : PySem.W.codeIn K cd22 "plus" = true)
    (k22 : PySem.W.keepIn K (.ref f22) = true)
    (a23 : PySem.W.nsIn K mainGlobals "is_fraction" = some (some (.ref f23)))
    (l23 : K.lookup f23 = some ⟨oc23, od23, .func (PySem.W.fnOf "is_fraction" "is_fraction" (defArgs (top 41)) (defBody (top 41)) (defScope (top 41)) .none kV23 dc23 pm23 an23 cd23 ct23), sl23⟩)
    (d23 : PySem.W.codeIn K cd23 "is_fraction" = true)
    (k23 : PySem.W.keepIn K (.ref f23) = true)
    (a24 : PySem.W.nsIn K mainGlobals "is_whole" = some (some (.ref f24)))
    (l24 : K.lookup f24 = some ⟨oc24, od24, .func (PySem.W.fnOf "is_whole" "is_whole" (defArgs (top 40)) (defBody (top 40)) (defScope (top 40)) .none kV24 dc24 pm24 an24 cd24 ct24), sl24⟩)
    (d24 : PySem.W.codeIn K cd24 "is_whole" = true)
    (k24 : PySem.W.keepIn K (.ref f24) = true)
    (ck0 : PySem.W.keepIn K (.ref c0) = true)
    (B0 : clsB K c0 (fldT.getD 0 []) ((mthT.getD 0 []).map fun m => (m.1, (fun k => [f0, f1, f2, f3, f4, f5, f6, f7, f8, f9, f10, f11, f12, f13, f14, f15, f16, f17, f18, f19, f20, f21, f22, f23, f24].getD k f0) m.2)) = true)
    (M0 : mkB K c0 f9 = true)
    (ck1 : PySem.W.keepIn K (.ref c1) = true)
    (x1 : excB K c1 = true)
    (y1 : exc0B K c1 = true)
    (ck2 : PySem.W.keepIn K (.ref c2) = true)
    (x2 : excB K c2 = true)
    (gi2 : PySem.W.findIn K (.ref c2) "__init__" = some (some (.ref g2)))
    (li2 : K.lookup g2 = some ⟨oci2, odi2, .func (PySem.W.fnOf "__init__" "NoStuff.__init__" (defArgs (mtop 3 0)) (defBody (mtop 3 0)) (defScope (mtop 3 0)) .none kVi2 dci2 pmi2 ani2 cdi2 cti2), sli2⟩)
    (di2 : PySem.W.codeIn K cdi2 "NoStuff.__init__" = true)
    (n2 : iniB K c2 g2 c1 ["field"] = true)
    (ck3 : PySem.W.keepIn K (.ref c3) = true)
    (x3 : excB K c3 = true)
    (gi3 : PySem.W.findIn K (.ref c3) "__init__" = some (some (.ref g3)))
    (li3 : K.lookup g3 = some ⟨oci3, odi3, .func (PySem.W.fnOf "__init__" "NoName.__init__" (defArgs (mtop 8 0)) (defBody (mtop 8 0)) (defScope (mtop 8 0)) .none kVi3 dci3 pmi3 ani3 cdi3 cti3), sli3⟩)
    (di3 : PySem.W.codeIn K cdi3 "NoName.__init__" = true)
    (n3 : iniB K c3 g3 c1 ["who"] = true)
    (ck4 : PySem.W.keepIn K (.ref c4) = true)
    (x4 : excB K c4 = true)
    (y4 : exc0B K c4 = true)
    (ck5 : PySem.W.keepIn K (.ref c5) = true)
    (x5 : excB K c5 = true)
    (gi5 : PySem.W.findIn K (.ref c5) "__init__" = some (some (.ref g5)))
    (li5 : K.lookup g5 = some ⟨oci5, odi5, .func (PySem.W.fnOf "__init__" "Unknown.__init__" (defArgs (mtop 12 0)) (defBody (mtop 12 0)) (defScope (mtop 12 0)) .none kVi5 dci5 pmi5 ani5 cdi5 cti5), sli5⟩)
    (di5 : PySem.W.codeIn K cdi5 "Unknown.__init__" = true)
    (n5 : iniB K c5 g5 c1 ["where", "who"] = true)
    (ck6 : PySem.W.keepIn K (.ref c6) = true)
    (x6 : excB K c6 = true)
    (gi6 : PySem.W.findIn K (.ref c6) "__init__" = some (some (.ref g6)))
    (li6 : K.lookup g6 = some ⟨oci6, odi6, .func (PySem.W.fnOf "__init__" "Uneven.__init__" (defArgs (mtop 14 0)) (defBody (mtop 14 0)) (defScope (mtop 14 0)) .none kVi6 dci6 pmi6 ani6 cdi6 cti6), sli6⟩)
    (di6 : PySem.W.codeIn K cdi6 "Uneven.__init__" = true)
    (n6 : iniB K c6 g6 c1 ["told"] = true)
    (ck7 : PySem.W.keepIn K (.ref c7) = true)
    (x7 : excB K c7 = true)
    (gi7 : PySem.W.findIn K (.ref c7) "__init__" = some (some (.ref g7)))
    (li7 : K.lookup g7 = some ⟨oci7, odi7, .func (PySem.W.fnOf "__init__" "Twice.__init__" (defArgs (mtop 7 0)) (defBody (mtop 7 0)) (defScope (mtop 7 0)) .none kVi7 dci7 pmi7 ani7 cdi7 cti7), sli7⟩)
    (di7 : PySem.W.codeIn K cdi7 "Twice.__init__" = true)
    (n7 : iniB K c7 g7 c1 ["who"] = true)
    (ck8 : PySem.W.keepIn K (.ref c8) = true)
    (x8 : excB K c8 = true)
    (y8 : exc0B K c8 = true)
    (ck9 : PySem.W.keepIn K (.ref c9) = true)
    (x9 : excB K c9 = true)
    (gi9 : PySem.W.findIn K (.ref c9) "__init__" = some (some (.ref g9)))
    (li9 : K.lookup g9 = some ⟨oci9, odi9, .func (PySem.W.fnOf "__init__" "Short.__init__" (defArgs (mtop 15 0)) (defBody (mtop 15 0)) (defScope (mtop 15 0)) .none kVi9 dci9 pmi9 ani9 cdi9 cti9), sli9⟩)
    (di9 : PySem.W.codeIn K cdi9 "Short.__init__" = true)
    (n9 : iniB K c9 g9 c1 ["who", "missing"] = true)
    (ck10 : PySem.W.keepIn K (.ref c10) = true)
    (x10 : excB K c10 = true)
    (gi10 : PySem.W.findIn K (.ref c10) "__init__" = some (some (.ref g10)))
    (li10 : K.lookup g10 = some ⟨oci10, odi10, .func (PySem.W.fnOf "__init__" "Ring.__init__" (defArgs (mtop 13 0)) (defBody (mtop 13 0)) (defScope (mtop 13 0)) .none kVi10 dci10 pmi10 ani10 cdi10 cti10), sli10⟩)
    (di10 : PySem.W.codeIn K cdi10 "Ring.__init__" = true)
    (n10 : iniB K c10 g10 c1 ["names"] = true)
    (ck11 : PySem.W.keepIn K (.ref c11) = true)
    (x11 : excB K c11 = true)
    (y11 : exc0B K c11 = true)
    (ck12 : PySem.W.keepIn K (.ref c12) = true)
    (x12 : excB K c12 = true)
    (y12 : exc0B K c12 = true)
    (ck13 : PySem.W.keepIn K (.ref c13) = true)
    (x13 : excB K c13 = true)
    (y13 : exc0B K c13 = true)
    (ck14 : PySem.W.keepIn K (.ref c14) = true)
    (x14 : excB K c14 = true)
    (y14 : exc0B K c14 = true)
    (ck15 : PySem.W.keepIn K (.ref c15) = true)
    (x15 : excB K c15 = true)
    (y15 : exc0B K c15 = true)
    (ck16 : PySem.W.keepIn K (.ref c16) = true)
    (x16 : excB K c16 = true)
    (y16 : exc0B K c16 = true)
    (ck17 : PySem.W.keepIn K (.ref c17) = true)
    (x17 : excB K c17 = true)
    (y17 : exc0B K c17 = true)
    (ck18 : PySem.W.keepIn K (.ref c18) = true)
    (x18 : excB K c18 = true)
    (gi18 : PySem.W.findIn K (.ref c18) "__init__" = some (some (.ref g18)))
    (li18 : K.lookup g18 = some ⟨oci18, odi18, .func (PySem.W.fnOf "__init__" "NoPan.__init__" (defArgs (mtop 5 0)) (defBody (mtop 5 0)) (defScope (mtop 5 0)) .none kVi18 dci18 pmi18 ani18 cdi18 cti18), sli18⟩)
    (di18 : PySem.W.codeIn K cdi18 "NoPan.__init__" = true)
    (n18 : iniB K c18 g18 c1 ["field"] = true)
    (ck19 : PySem.W.keepIn K (.ref c19) = true)
    (x19 : excB K c19 = true)
    (gi19 : PySem.W.findIn K (.ref c19) "__init__" = some (some (.ref g19)))
    (li19 : K.lookup g19 = some ⟨oci19, odi19, .func (PySem.W.fnOf "__init__" "NoOrder.__init__" (defArgs (mtop 6 0)) (defBody (mtop 6 0)) (defScope (mtop 6 0)) .none kVi19 dci19 pmi19 ani19 cdi19 cti19), sli19⟩)
    (di19 : PySem.W.codeIn K cdi19 "NoOrder.__init__" = true)
    (n19 : iniB K c19 g19 c1 ["field"] = true)
    (ck20 : PySem.W.keepIn K (.ref c20) = true)
    (x20 : excB K c20 = true)
    (y20 : exc0B K c20 = true)
    (ck21 : PySem.W.keepIn K (.ref c21) = true)
    (x21 : excB K c21 = true)
    (gi21 : PySem.W.findIn K (.ref c21) "__init__" = some (some (.ref g21)))
    (li21 : K.lookup g21 = some ⟨oci21, odi21, .func (PySem.W.fnOf "__init__" "NoFlour.__init__" (defArgs (mtop 9 0)) (defBody (mtop 9 0)) (defScope (mtop 9 0)) .none kVi21 dci21 pmi21 ani21 cdi21 cti21), sli21⟩)
    (di21 : PySem.W.codeIn K cdi21 "NoFlour.__init__" = true)
    (n21 : iniB K c21 g21 c1 ["who"] = true)
    (ck22 : PySem.W.keepIn K (.ref c22) = true)
    (x22 : excB K c22 = true)
    (gi22 : PySem.W.findIn K (.ref c22) "__init__" = some (some (.ref g22)))
    (li22 : K.lookup g22 = some ⟨oci22, odi22, .func (PySem.W.fnOf "__init__" "NoFeel.__init__" (defArgs (mtop 10 0)) (defBody (mtop 10 0)) (defScope (mtop 10 0)) .none kVi22 dci22 pmi22 ani22 cdi22 cti22), sli22⟩)
    (di22 : PySem.W.codeIn K cdi22 "NoFeel.__init__" = true)
    (n22 : iniB K c22 g22 c1 ["who"] = true)
    (ck23 : PySem.W.keepIn K (.ref c23) = true)
    (x23 : excB K c23 = true)
    (gi23 : PySem.W.findIn K (.ref c23) "__init__" = some (some (.ref g23)))
    (li23 : K.lookup g23 = some ⟨oci23, odi23, .func (PySem.W.fnOf "__init__" "NoDough.__init__" (defArgs (mtop 4 0)) (defBody (mtop 4 0)) (defScope (mtop 4 0)) .none kVi23 dci23 pmi23 ani23 cdi23 cti23), sli23⟩)
    (di23 : PySem.W.codeIn K cdi23 "NoDough.__init__" = true)
    (n23 : iniB K c23 g23 c1 ["field"] = true)
    (ck24 : PySem.W.keepIn K (.ref c24) = true)
    (x24 : excB K c24 = true)
    (y24 : exc0B K c24 = true)
    (ck25 : PySem.W.keepIn K (.ref c25) = true)
    (x25 : excB K c25 = true)
    (y25 : exc0B K c25 = true)
    (ck26 : PySem.W.keepIn K (.ref c26) = true)
    (x26 : excB K c26 = true)
    (gi26 : PySem.W.findIn K (.ref c26) "__init__" = some (some (.ref g26)))
    (li26 : K.lookup g26 = some ⟨oci26, odi26, .func (PySem.W.fnOf "__init__" "Late.__init__" (defArgs (mtop 26 0)) (defBody (mtop 26 0)) (defScope (mtop 26 0)) .none kVi26 dci26 pmi26 ani26 cdi26 cti26), sli26⟩)
    (di26 : PySem.W.codeIn K cdi26 "Late.__init__" = true)
    (n26 : iniB K c26 g26 c1 ["by"] = true)
    (ck27 : PySem.W.keepIn K (.ref c27) = true)
    (x27 : excB K c27 = true)
    (y27 : exc0B K c27 = true)
    (ck28 : PySem.W.keepIn K (.ref c28) = true)
    (x28 : excB K c28 = true)
    (gi28 : PySem.W.findIn K (.ref c28) "__init__" = some (some (.ref g28)))
    (li28 : K.lookup g28 = some ⟨oci28, odi28, .func (PySem.W.fnOf "__init__" "Dry.__init__" (defArgs (mtop 11 0)) (defBody (mtop 11 0)) (defScope (mtop 11 0)) .none kVi28 dci28 pmi28 ani28 cdi28 cti28), sli28⟩)
    (di28 : PySem.W.codeIn K cdi28 "Dry.__init__" = true)
    (n28 : iniB K c28 g28 c1 ["who"] = true)
    (hE : exmB K (fun k => [c0, c1, c2, c3, c4, c5, c6, c7, c8, c9, c10, c11, c12, c13, c14, c15, c16, c17, c18, c19, c20, c21, c22, c23, c24, c25, c26, c27, c28].getD k c0) 29 pg.exc pg.sub = true)
    (hX : xisB K (fun k => [c0, c1, c2, c3, c4, c5, c6, c7, c8, c9, c10, c11, c12, c13, c14, c15, c16, c17, c18, c19, c20, c21, c22, c23, c24, c25, c26, c27, c28].getD k c0) 29 pg.exc pg.sub pd.xfs = true)
    (hI : isiB K (fun k => [c0, c1, c2, c3, c4, c5, c6, c7, c8, c9, c10, c11, c12, c13, c14, c15, c16, c17, c18, c19, c20, c21, c22, c23, c24, c25, c26, c27, c28].getD k c0) 1 pg.sub = true)
    (gn0 : PySem.W.nsIn K mainGlobals "WORDS" = some (some u0))
    (gk0 : konB K 9 (.tup [(.str "flour"), (.str "water"), (.str "salt"), (.str "thirst"), (.str "price")]) u0 = true)
    (gn1 : PySem.W.nsIn K mainGlobals "ONE" = some (some u1))
    (gk1 : konB K 9 (.tup [(.int 1), (.int 1)]) u1 = true)
    (gn2 : PySem.W.nsIn K mainGlobals "NOUGHT" = some (some u2))
    (gk2 : konB K 9 (.tup [(.int 0), (.int 1)]) u2 = true)
    (gn3 : PySem.W.nsIn K mainGlobals "LETTERS" = some (some u3))
    (gk3 : konB K 9 (.str "abcdefghijklmnopqrstuvwxyz") u3 = true)
    (gn4 : PySem.W.nsIn K mainGlobals "MOST_LETTERS" = some (some u4))
    (gk4 : konB K 9 (.int 10) u4 = true)
    (z_ValueError : PySem.W.nsIn K mainGlobals "ValueError" = some none)
    (z_abs : PySem.W.nsIn K mainGlobals "abs" = some none)
    (z_all : PySem.W.nsIn K mainGlobals "all" = some none)
    (z_bool : PySem.W.nsIn K mainGlobals "bool" = some none)
    (z_divmod : PySem.W.nsIn K mainGlobals "divmod" = some none)
    (z_enumerate : PySem.W.nsIn K mainGlobals "enumerate" = some none)
    (z_int : PySem.W.nsIn K mainGlobals "int" = some none)
    (z_isinstance : PySem.W.nsIn K mainGlobals "isinstance" = some none)
    (z_len : PySem.W.nsIn K mainGlobals "len" = some none)
    (z_max : PySem.W.nsIn K mainGlobals "max" = some none)
    (z_min : PySem.W.nsIn K mainGlobals "min" = some none)
    (z_range : PySem.W.nsIn K mainGlobals "range" = some none)
    (z_str : PySem.W.nsIn K mainGlobals "str" = some none)
    (z_tuple : PySem.W.nsIn K mainGlobals "tuple" = some none) :
    Top K mg ⟨K, (fun k => [f0, f1, f2, f3, f4, f5, f6, f7, f8, f9, f10, f11, f12, f13, f14, f15, f16, f17, f18, f19, f20, f21, f22, f23, f24].getD k f0), (fun k => [c0, c1, c2, c3, c4, c5, c6, c7, c8, c9, c10, c11, c12, c13, c14, c15, c16, c17, c18, c19, c20, c21, c22, c23, c24, c25, c26, c27, c28].getD k c0)⟩ pd ∧ ∃ fd, DefAt K ⟨K, (fun k => [f0, f1, f2, f3, f4, f5, f6, f7, f8, f9, f10, f11, f12, f13, f14, f15, f16, f17, f18, f19, f20, f21, f22, f23, f24].getD k f0), (fun k => [c0, c1, c2, c3, c4, c5, c6, c7, c8, c9, c10, c11, c12, c13, c14, c15, c16, c17, c18, c19, c20, c21, c22, c23, c24, c25, c26, c27, c28].getD k c0)⟩ pd 0 f_law fd := by
  have D0 : ∀ fa ca, fa 0 = f0 → DefAt K ⟨K, fa, ca⟩ pd 0 f_law _ := fun fa ca e => ⟨⟨_, _, _, _, _, _, _, _, _, _, _, _, _, _, _, rfl, (by rw [show (Gd.mk K fa ca).fa 0 = f0 from e]; exact l0), d0, sc_law, ck_law⟩, .all (fun us hl => match us, hl with | [_], _ => rfl), List.forall_mem_nil _⟩
  have D1 : ∀ fa ca, fa 1 = f1 → DefAt K ⟨K, fa, ca⟩ pd 1 f_law_right _ := fun fa ca e => ⟨⟨_, _, _, _, _, _, _, _, _, _, _, _, _, _, _, rfl, (by rw [show (Gd.mk K fa ca).fa 1 = f1 from e]; exact l1), d1, sc_law_right, ck_law_right⟩, .all (fun us hl => match us, hl with | [_], _ => rfl), List.forall_mem_nil _⟩
  have D2 : ∀ fa ca, fa 2 = f2 → DefAt K ⟨K, fa, ca⟩ pd 2 f_law_pot _ := fun fa ca e => ⟨⟨_, _, _, _, _, _, _, _, _, _, _, _, _, _, _, rfl, (by rw [show (Gd.mk K fa ca).fa 2 = f2 from e]; exact l2), d2, sc_law_pot, ck_law_pot⟩, .all (fun us hl => match us, hl with | [_], _ => rfl), List.forall_mem_nil _⟩
  have D3 : ∀ fa ca, fa 3 = f3 → DefAt K ⟨K, fa, ca⟩ pd 3 f_law_cell _ := fun fa ca e => ⟨⟨_, _, _, _, _, _, _, _, _, _, _, _, _, _, _, rfl, (by rw [show (Gd.mk K fa ca).fa 3 = f3 from e]; exact l3), d3, sc_law_cell, ck_law_cell⟩, .all (fun us hl => match us, hl with | [_, _], _ => rfl), List.forall_mem_nil _⟩
  have D4 : ∀ fa ca, fa 4 = f4 → DefAt K ⟨K, fa, ca⟩ pd 4 f_law_told _ := fun fa ca e => ⟨⟨_, _, _, _, _, _, _, _, _, _, _, _, _, _, _, rfl, (by rw [show (Gd.mk K fa ca).fa 4 = f4 from e]; exact l4), d4, sc_law_told, ck_law_told⟩, .all (fun us hl => match us, hl with | [_, _, _], _ => rfl), List.forall_mem_nil _⟩
  have D5 : ∀ fa ca, fa 5 = f5 → DefAt K ⟨K, fa, ca⟩ pd 5 f_law_word _ := fun fa ca e => ⟨⟨_, _, _, _, _, _, _, _, _, _, _, _, _, _, _, rfl, (by rw [show (Gd.mk K fa ca).fa 5 = f5 from e]; exact l5), d5, sc_law_word, ck_law_word⟩, .all (fun us hl => match us, hl with | [_], _ => rfl), List.forall_mem_nil _⟩
  have D6 : ∀ fa ca, fa 6 = f6 → DefAt K ⟨K, fa, ca⟩ pd 6 f_law_draw _ := fun fa ca e => ⟨⟨_, _, _, _, _, _, _, _, _, _, _, _, _, _, _, rfl, (by rw [show (Gd.mk K fa ca).fa 6 = f6 from e]; exact l6), d6, sc_law_draw, ck_law_draw⟩, .all (fun us hl => match us, hl with | [_, _], _ => rfl), List.forall_mem_nil _⟩
  have D7 : ∀ fa ca, fa 7 = f7 → DefAt K ⟨K, fa, ca⟩ pd 7 f_law_low _ := fun fa ca e => ⟨⟨_, _, _, _, _, _, _, _, _, _, _, _, _, _, _, rfl, (by rw [show (Gd.mk K fa ca).fa 7 = f7 from e]; exact l7), d7, sc_law_low, ck_law_low⟩, .all (fun us hl => match us, hl with | [_, _], _ => rfl), List.forall_mem_nil _⟩
  have D8 : ∀ fa ca, fa 8 = f8 → DefAt K ⟨K, fa, ca⟩ pd 8 f_Stuff_measure _ := fun fa ca e => ⟨⟨_, _, _, _, _, _, _, _, _, _, _, _, _, _, _, rfl, (by rw [show (Gd.mk K fa ca).fa 8 = f8 from e]; exact l8), d8, sc_Stuff_measure, ck_Stuff_measure⟩, .all (fun us hl => match us, hl with | [_, _], _ => rfl), List.forall_mem_cons.mpr ⟨⟨[], ⟨[], .nil, fun _ => Rps.mk0⟩, fun s us ws _ h1 h2 => (match us, ws, h1, h2 with | [_, _], [], _, _ => .of_eq rfl)⟩, List.forall_mem_nil _⟩⟩
  have D9 : ∀ fa ca, fa 9 = f9 → DefAt K ⟨K, fa, ca⟩ pd 9 f_Stuff_init__ _ := fun fa ca e => ⟨⟨_, _, _, _, _, _, _, _, _, _, _, _, _, _, _, rfl, (by rw [show (Gd.mk K fa ca).fa 9 = f9 from e]; exact l9), d9, sc_Stuff_init__, ck_Stuff_init__⟩, dfl_bnd tl9 tv9 (fun us vs h1 h2 => (match us, vs, h1, h2 with | [_, _, _, _, _, _, _], [_, _, _, _, _], _, _ => ⟨_, rfl, rfl⟩)), List.forall_mem_cons.mpr ⟨dfl_ok (idx := [0, 1, 2, 3]) tl9 tv9 (fun us ws vs h1 h2 h3 => (match us, ws, vs, h1, h2, h3 with | [_, _], [_], [_, _, _, _, _], _, _, _ => ⟨_, rfl, rfl⟩)), List.forall_mem_cons.mpr ⟨dfl_ok (idx := []) tl9 tv9 (fun us ws vs h1 h2 h3 => (match us, ws, vs, h1, h2, h3 with | [_, _, _, _, _, _, _], [], [_, _, _, _, _], _, _, _ => ⟨_, rfl, rfl⟩)), List.forall_mem_nil _⟩⟩⟩
  have D10 : ∀ fa ca, fa 10 = f10 → DefAt K ⟨K, fa, ca⟩ pd 10 f_law_name _ := fun fa ca e => ⟨⟨_, _, _, _, _, _, _, _, _, _, _, _, _, _, _, rfl, (by rw [show (Gd.mk K fa ca).fa 10 = f10 from e]; exact l10), d10, sc_law_name, ck_law_name⟩, .all (fun us hl => match us, hl with | [_, _], _ => rfl), List.forall_mem_nil _⟩
  have D11 : ∀ fa ca, fa 11 = f11 → DefAt K ⟨K, fa, ca⟩ pd 11 f_law_others _ := fun fa ca e => ⟨⟨_, _, _, _, _, _, _, _, _, _, _, _, _, _, _, rfl, (by rw [show (Gd.mk K fa ca).fa 11 = f11 from e]; exact l11), d11, sc_law_others, ck_law_others⟩, .all (fun us hl => match us, hl with | [_], _ => rfl), List.forall_mem_nil _⟩
  have D12 : ∀ fa ca, fa 12 = f12 → DefAt K ⟨K, fa, ca⟩ pd 12 f_law_deed _ := fun fa ca e => ⟨⟨_, _, _, _, _, _, _, _, _, _, _, _, _, _, _, rfl, (by rw [show (Gd.mk K fa ca).fa 12 = f12 from e]; exact l12), d12, sc_law_deed, ck_law_deed⟩, .all (fun us hl => match us, hl with | [_, _, _], _ => rfl), List.forall_mem_nil _⟩
  have D13 : ∀ fa ca, fa 13 = f13 → DefAt K ⟨K, fa, ca⟩ pd 13 f_first_wrong _ := fun fa ca e => ⟨⟨_, _, _, _, _, _, _, _, _, _, _, _, _, _, _, rfl, (by rw [show (Gd.mk K fa ca).fa 13 = f13 from e]; exact l13), d13, sc_first_wrong, ck_first_wrong⟩, .all (fun us hl => match us, hl with | [_, _], _ => rfl), List.forall_mem_nil _⟩
  have D14 : ∀ fa ca, fa 14 = f14 → DefAt K ⟨K, fa, ca⟩ pd 14 f_or_none _ := fun fa ca e => ⟨⟨_, _, _, _, _, _, _, _, _, _, _, _, _, _, _, rfl, (by rw [show (Gd.mk K fa ca).fa 14 = f14 from e]; exact l14), d14, sc_or_none, ck_or_none⟩, .all (fun us hl => match us, hl with | [_], _ => rfl), List.forall_mem_nil _⟩
  have D15 : ∀ fa ca, fa 15 = f15 → DefAt K ⟨K, fa, ca⟩ pd 15 f_over _ := fun fa ca e => ⟨⟨_, _, _, _, _, _, _, _, _, _, _, _, _, _, _, rfl, (by rw [show (Gd.mk K fa ca).fa 15 = f15 from e]; exact l15), d15, sc_over, ck_over⟩, .all (fun us hl => match us, hl with | [_, _], _ => rfl), List.forall_mem_nil _⟩
  have D16 : ∀ fa ca, fa 16 = f16 → DefAt K ⟨K, fa, ca⟩ pd 16 f_fraction _ := fun fa ca e => ⟨⟨_, _, _, _, _, _, _, _, _, _, _, _, _, _, _, rfl, (by rw [show (Gd.mk K fa ca).fa 16 = f16 from e]; exact l16), d16, sc_fraction, ck_fraction⟩, .all (fun us hl => match us, hl with | [_, _], _ => rfl), List.forall_mem_nil _⟩
  have D17 : ∀ fa ca, fa 17 = f17 → DefAt K ⟨K, fa, ca⟩ pd 17 f_is_less _ := fun fa ca e => ⟨⟨_, _, _, _, _, _, _, _, _, _, _, _, _, _, _, rfl, (by rw [show (Gd.mk K fa ca).fa 17 = f17 from e]; exact l17), d17, sc_is_less, ck_is_less⟩, .all (fun us hl => match us, hl with | [_, _], _ => rfl), List.forall_mem_nil _⟩
  have D18 : ∀ fa ca, fa 18 = f18 → DefAt K ⟨K, fa, ca⟩ pd 18 f_sum_of _ := fun fa ca e => ⟨⟨_, _, _, _, _, _, _, _, _, _, _, _, _, _, _, rfl, (by rw [show (Gd.mk K fa ca).fa 18 = f18 from e]; exact l18), d18, sc_sum_of, ck_sum_of⟩, .all (fun us hl => match us, hl with | [_], _ => rfl), List.forall_mem_nil _⟩
  have D19 : ∀ fa ca, fa 19 = f19 → DefAt K ⟨K, fa, ca⟩ pd 19 f_is_measure _ := fun fa ca e => ⟨⟨_, _, _, _, _, _, _, _, _, _, _, _, _, _, _, rfl, (by rw [show (Gd.mk K fa ca).fa 19 = f19 from e]; exact l19), d19, sc_is_measure, ck_is_measure⟩, .all (fun us hl => match us, hl with | [_], _ => rfl), List.forall_mem_nil _⟩
  have D20 : ∀ fa ca, fa 20 = f20 → DefAt K ⟨K, fa, ca⟩ pd 20 f_is_name _ := fun fa ca e => ⟨⟨_, _, _, _, _, _, _, _, _, _, _, _, _, _, _, rfl, (by rw [show (Gd.mk K fa ca).fa 20 = f20 from e]; exact l20), d20, sc_is_name, ck_is_name⟩, .all (fun us hl => match us, hl with | [_], _ => rfl), List.forall_mem_nil _⟩
  have D21 : ∀ fa ca, fa 21 = f21 → DefAt K ⟨K, fa, ca⟩ pd 21 f_common _ := fun fa ca e => ⟨⟨_, _, _, _, _, _, _, _, _, _, _, _, _, _, _, rfl, (by rw [show (Gd.mk K fa ca).fa 21 = f21 from e]; exact l21), d21, sc_common, ck_common⟩, .all (fun us hl => match us, hl with | [_, _], _ => rfl), List.forall_mem_nil _⟩
  have D22 : ∀ fa ca, fa 22 = f22 → DefAt K ⟨K, fa, ca⟩ pd 22 f_plus _ := fun fa ca e => ⟨⟨_, _, _, _, _, _, _, _, _, _, _, _, _, _, _, rfl, (by rw [show (Gd.mk K fa ca).fa 22 = f22 from e]; exact l22), d22, sc_plus, ck_plus⟩, .all (fun us hl => match us, hl with | [_, _], _ => rfl), List.forall_mem_nil _⟩
  have D23 : ∀ fa ca, fa 23 = f23 → DefAt K ⟨K, fa, ca⟩ pd 23 f_is_fraction _ := fun fa ca e => ⟨⟨_, _, _, _, _, _, _, _, _, _, _, _, _, _, _, rfl, (by rw [show (Gd.mk K fa ca).fa 23 = f23 from e]; exact l23), d23, sc_is_fraction, ck_is_fraction⟩, .all (fun us hl => match us, hl with | [_], _ => rfl), List.forall_mem_nil _⟩
  have D24 : ∀ fa ca, fa 24 = f24 → DefAt K ⟨K, fa, ca⟩ pd 24 f_is_whole _ := fun fa ca e => ⟨⟨_, _, _, _, _, _, _, _, _, _, _, _, _, _, _, rfl, (by rw [show (Gd.mk K fa ca).fa 24 = f24 from e]; exact l24), d24, sc_is_whole, ck_is_whole⟩, .all (fun us hl => match us, hl with | [_], _ => rfl), List.forall_mem_nil _⟩
  refine ⟨{ kg := rfl, fns := ?_, kp := ?_, gl := ?_, blt := ?_, cgl := ?_, ckp := ?_, isi := ?_, fld := ?_, mth := ?_, make := ?_, gcs := ?_, xsub := ?_, xty := ?_, xmk := ?_, exm := ?_, xis := ?_ }, _, D0 _ _ rfl⟩
  · exact all_at (Q := fun k f => ∃ fd, DefAt K _ pd k f fd) (fs := pd.fns) ⟨⟨_, D0 _ _ rfl⟩, ⟨_, D1 _ _ rfl⟩, ⟨_, D2 _ _ rfl⟩, ⟨_, D3 _ _ rfl⟩, ⟨_, D4 _ _ rfl⟩, ⟨_, D5 _ _ rfl⟩, ⟨_, D6 _ _ rfl⟩, ⟨_, D7 _ _ rfl⟩, ⟨_, D8 _ _ rfl⟩, ⟨_, D9 _ _ rfl⟩, ⟨_, D10 _ _ rfl⟩, ⟨_, D11 _ _ rfl⟩, ⟨_, D12 _ _ rfl⟩, ⟨_, D13 _ _ rfl⟩, ⟨_, D14 _ _ rfl⟩, ⟨_, D15 _ _ rfl⟩, ⟨_, D16 _ _ rfl⟩, ⟨_, D17 _ _ rfl⟩, ⟨_, D18 _ _ rfl⟩, ⟨_, D19 _ _ rfl⟩, ⟨_, D20 _ _ rfl⟩, ⟨_, D21 _ _ rfl⟩, ⟨_, D22 _ _ rfl⟩, ⟨_, D23 _ _ rfl⟩, ⟨_, D24 _ _ rfl⟩, trivial⟩
  · exact getD_all (Q := fun a => PySem.W.keepIn K (.ref a) = true) ⟨k0, k1, k2, k3, k4, k5, k6, k7, k8, k9, k10, k11, k12, k13, k14, k15, k16, k17, k18, k19, k20, k21, k22, k23, k24, trivial⟩ k0
  · exact all_at (Q := fun k (f : Fn) => f.name ∈ pd.gls → mg f.name = some (.ref ([f0, f1, f2, f3, f4, f5, f6, f7, f8, f9, f10, f11, f12, f13, f14, f15, f16, f17, f18, f19, f20, f21, f22, f23, f24].getD k f0))) (fs := pd.fns) ⟨fun _ => PySem.W.mg_of X Gn a0, fun _ => PySem.W.mg_of X Gn a1, fun _ => PySem.W.mg_of X Gn a2, fun _ => PySem.W.mg_of X Gn a3, fun _ => PySem.W.mg_of X Gn a4, fun _ => PySem.W.mg_of X Gn a5, fun _ => PySem.W.mg_of X Gn a6, fun _ => PySem.W.mg_of X Gn a7, fun z => absurd z (by decide +kernel), fun z => absurd z (by decide +kernel), fun _ => PySem.W.mg_of X Gn a10, fun _ => PySem.W.mg_of X Gn a11, fun _ => PySem.W.mg_of X Gn a12, fun _ => PySem.W.mg_of X Gn a13, fun _ => PySem.W.mg_of X Gn a14, fun _ => PySem.W.mg_of X Gn a15, fun _ => PySem.W.mg_of X Gn a16, fun _ => PySem.W.mg_of X Gn a17, fun _ => PySem.W.mg_of X Gn a18, fun _ => PySem.W.mg_of X Gn a19, fun _ => PySem.W.mg_of X Gn a20, fun _ => PySem.W.mg_of X Gn a21, fun _ => PySem.W.mg_of X Gn a22, fun _ => PySem.W.mg_of X Gn a23, fun _ => PySem.W.mg_of X Gn a24, trivial⟩
  · exact List.forall_mem_cons.mpr ⟨PySem.W.mg_none_of X Gn z_ValueError, List.forall_mem_cons.mpr ⟨PySem.W.mg_none_of X Gn z_abs, List.forall_mem_cons.mpr ⟨PySem.W.mg_none_of X Gn z_all, List.forall_mem_cons.mpr ⟨PySem.W.mg_none_of X Gn z_bool, List.forall_mem_cons.mpr ⟨PySem.W.mg_none_of X Gn z_divmod, List.forall_mem_cons.mpr ⟨PySem.W.mg_none_of X Gn z_enumerate, List.forall_mem_cons.mpr ⟨PySem.W.mg_none_of X Gn z_int, List.forall_mem_cons.mpr ⟨PySem.W.mg_none_of X Gn z_isinstance, List.forall_mem_cons.mpr ⟨PySem.W.mg_none_of X Gn z_len, List.forall_mem_cons.mpr ⟨PySem.W.mg_none_of X Gn z_max, List.forall_mem_cons.mpr ⟨PySem.W.mg_none_of X Gn z_min, List.forall_mem_cons.mpr ⟨PySem.W.mg_none_of X Gn z_range, List.forall_mem_cons.mpr ⟨PySem.W.mg_none_of X Gn z_str, List.forall_mem_cons.mpr ⟨PySem.W.mg_none_of X Gn z_tuple, List.forall_mem_nil _⟩⟩⟩⟩⟩⟩⟩⟩⟩⟩⟩⟩⟩⟩
  · exact all_at (Q := fun k (x : Str) => mg x = some (.ref ((fun k => [c0, c1, c2, c3, c4, c5, c6, c7, c8, c9, c10, c11, c12, c13, c14, c15, c16, c17, c18, c19, c20, c21, c22, c23, c24, c25, c26, c27, c28].getD k c0) k))) (fs := pd.cls) ⟨PySem.W.mg_of X Gn ca0, PySem.W.mg_of X Gn ca1, PySem.W.mg_of X Gn ca2, PySem.W.mg_of X Gn ca3, PySem.W.mg_of X Gn ca4, PySem.W.mg_of X Gn ca5, PySem.W.mg_of X Gn ca6, PySem.W.mg_of X Gn ca7, PySem.W.mg_of X Gn ca8, PySem.W.mg_of X Gn ca9, PySem.W.mg_of X Gn ca10, PySem.W.mg_of X Gn ca11, PySem.W.mg_of X Gn ca12, PySem.W.mg_of X Gn ca13, PySem.W.mg_of X Gn ca14, PySem.W.mg_of X Gn ca15, PySem.W.mg_of X Gn ca16, PySem.W.mg_of X Gn ca17, PySem.W.mg_of X Gn ca18, PySem.W.mg_of X Gn ca19, PySem.W.mg_of X Gn ca20, PySem.W.mg_of X Gn ca21, PySem.W.mg_of X Gn ca22, PySem.W.mg_of X Gn ca23, PySem.W.mg_of X Gn ca24, PySem.W.mg_of X Gn ca25, PySem.W.mg_of X Gn ca26, PySem.W.mg_of X Gn ca27, PySem.W.mg_of X Gn ca28, trivial⟩
  · exact all_at (Q := fun k (x : Str) => PySem.W.keepIn K (.ref ((fun k => [c0, c1, c2, c3, c4, c5, c6, c7, c8, c9, c10, c11, c12, c13, c14, c15, c16, c17, c18, c19, c20, c21, c22, c23, c24, c25, c26, c27, c28].getD k c0) k)) = true) (fs := pd.cls) ⟨ck0, ck1, ck2, ck3, ck4, ck5, ck6, ck7, ck8, ck9, ck10, ck11, ck12, ck13, ck14, ck15, ck16, ck17, ck18, ck19, ck20, ck21, ck22, ck23, ck24, ck25, ck26, ck27, ck28, trivial⟩
  · refine isiB_ok K (P := pd.toPg) (fun k hk => ?_) (fun k hk => ini_lt k (by decide +kernel : (iniT.drop 1).all Option.isNone = true) hk) hI
    exact (match k, hk with | 0, _ => (clsB_ok K B0).1 | k + 1, z => absurd z (by show ¬ (k + 1 < 1); omega))
  · intro k; exact getD_two (Q := fun a (fl : List Str) => ∀ x ∈ fl, Cls K a ∧ NoAttr K a x) (xs := [c0, c1, c2, c3, c4, c5, c6, c7, c8, c9, c10, c11, c12, c13, c14, c15, c16, c17, c18, c19, c20, c21, c22, c23, c24, c25, c26, c27, c28]) (ys := fldT) (i := k) rfl ⟨fld_ok B0, no_fld, no_fld, no_fld, no_fld, no_fld, no_fld, no_fld, no_fld, no_fld, no_fld, no_fld, no_fld, no_fld, no_fld, no_fld, no_fld, no_fld, no_fld, no_fld, no_fld, no_fld, no_fld, no_fld, no_fld, no_fld, no_fld, no_fld, no_fld, trivial⟩ no_fld
  · intro k; exact getD_two (Q := fun a (ms : List (Str × Nat)) => ∀ x j, ms.lookup x = some j → Cls K a ∧ Meth K a x ((fun k => [f0, f1, f2, f3, f4, f5, f6, f7, f8, f9, f10, f11, f12, f13, f14, f15, f16, f17, f18, f19, f20, f21, f22, f23, f24].getD k f0) j)) (xs := [c0, c1, c2, c3, c4, c5, c6, c7, c8, c9, c10, c11, c12, c13, c14, c15, c16, c17, c18, c19, c20, c21, c22, c23, c24, c25, c26, c27, c28]) (ys := mthT) (i := k) rfl ⟨mth_ok B0, no_mth, no_mth, no_mth, no_mth, no_mth, no_mth, no_mth, no_mth, no_mth, no_mth, no_mth, no_mth, no_mth, no_mth, no_mth, no_mth, no_mth, no_mth, no_mth, no_mth, no_mth, no_mth, no_mth, no_mth, no_mth, no_mth, no_mth, no_mth, trivial⟩ no_mth
  · intro k; exact getD_two (Q := fun a (o : Option Nat) => ∀ j, o = some j → Mk K a ((fun k => [f0, f1, f2, f3, f4, f5, f6, f7, f8, f9, f10, f11, f12, f13, f14, f15, f16, f17, f18, f19, f20, f21, f22, f23, f24].getD k f0) j)) (xs := [c0, c1, c2, c3, c4, c5, c6, c7, c8, c9, c10, c11, c12, c13, c14, c15, c16, c17, c18, c19, c20, c21, c22, c23, c24, c25, c26, c27, c28]) (ys := iniT) (i := k) rfl ⟨(fun j z => by cases z; exact mkB_ok K M0), (fun _ z => nomatch z), (fun _ z => nomatch z), (fun _ z => nomatch z), (fun _ z => nomatch z), (fun _ z => nomatch z), (fun _ z => nomatch z), (fun _ z => nomatch z), (fun _ z => nomatch z), (fun _ z => nomatch z), (fun _ z => nomatch z), (fun _ z => nomatch z), (fun _ z => nomatch z), (fun _ z => nomatch z), (fun _ z => nomatch z), (fun _ z => nomatch z), (fun _ z => nomatch z), (fun _ z => nomatch z), (fun _ z => nomatch z), (fun _ z => nomatch z), (fun _ z => nomatch z), (fun _ z => nomatch z), (fun _ z => nomatch z), (fun _ z => nomatch z), (fun _ z => nomatch z), (fun _ z => nomatch z), (fun _ z => nomatch z), (fun _ z => nomatch z), (fun _ z => nomatch z), trivial⟩ (fun _ z => nomatch z)
  · exact fun j x d e => all_at (Q := fun j (p : Str × D) => ∃ u v, mg p.1 = some u ∧ RelV v u ∧ ∀ m, Rp ⟨K, (fun k => [f0, f1, f2, f3, f4, f5, f6, f7, f8, f9, f10, f11, f12, f13, f14, f15, f16, f17, f18, f19, f20, f21, f22, f23, f24].getD k f0), (fun k => [c0, c1, c2, c3, c4, c5, c6, c7, c8, c9, c10, c11, c12, c13, c14, c15, c16, c17, c18, c19, c20, c21, c22, c23, c24, c25, c26, c27, c28].getD k c0)⟩ m p.2 v) (fs := pd.gcs) ⟨(let ⟨v, h1, h2⟩ := konB_ok 9 _ _ gk0; ⟨_, v, PySem.W.mg_of X Gn gn0, h1, h2⟩), (let ⟨v, h1, h2⟩ := konB_ok 9 _ _ gk1; ⟨_, v, PySem.W.mg_of X Gn gn1, h1, h2⟩), (let ⟨v, h1, h2⟩ := konB_ok 9 _ _ gk2; ⟨_, v, PySem.W.mg_of X Gn gn2, h1, h2⟩), (let ⟨v, h1, h2⟩ := konB_ok 9 _ _ gk3; ⟨_, v, PySem.W.mg_of X Gn gn3, h1, h2⟩), (let ⟨v, h1, h2⟩ := konB_ok 9 _ _ gk4; ⟨_, v, PySem.W.mg_of X Gn gn4, h1, h2⟩), trivial⟩ j (x, d) e
  · exact all_at (Q := fun k (x : Str) => pg.exc k = true → PySem.W.subIn K (.ref ((fun k => [c0, c1, c2, c3, c4, c5, c6, c7, c8, c9, c10, c11, c12, c13, c14, c15, c16, c17, c18, c19, c20, c21, c22, c23, c24, c25, c26, c27, c28].getD k c0) k)) (.type "BaseException") = some true) (fs := pd.cls) ⟨(fun z => absurd z (by decide +kernel)), (fun _ => by have z := x1; unfold excB at z; simp only [Bool.and_eq_true, decide_eq_true_eq] at z; exact z.1), (fun _ => by have z := x2; unfold excB at z; simp only [Bool.and_eq_true, decide_eq_true_eq] at z; exact z.1), (fun _ => by have z := x3; unfold excB at z; simp only [Bool.and_eq_true, decide_eq_true_eq] at z; exact z.1), (fun _ => by have z := x4; unfold excB at z; simp only [Bool.and_eq_true, decide_eq_true_eq] at z; exact z.1), (fun _ => by have z := x5; unfold excB at z; simp only [Bool.and_eq_true, decide_eq_true_eq] at z; exact z.1), (fun _ => by have z := x6; unfold excB at z; simp only [Bool.and_eq_true, decide_eq_true_eq] at z; exact z.1), (fun _ => by have z := x7; unfold excB at z; simp only [Bool.and_eq_true, decide_eq_true_eq] at z; exact z.1), (fun _ => by have z := x8; unfold excB at z; simp only [Bool.and_eq_true, decide_eq_true_eq] at z; exact z.1), (fun _ => by have z := x9; unfold excB at z; simp only [Bool.and_eq_true, decide_eq_true_eq] at z; exact z.1), (fun _ => by have z := x10; unfold excB at z; simp only [Bool.and_eq_true, decide_eq_true_eq] at z; exact z.1), (fun _ => by have z := x11; unfold excB at z; simp only [Bool.and_eq_true, decide_eq_true_eq] at z; exact z.1), (fun _ => by have z := x12; unfold excB at z; simp only [Bool.and_eq_true, decide_eq_true_eq] at z; exact z.1), (fun _ => by have z := x13; unfold excB at z; simp only [Bool.and_eq_true, decide_eq_true_eq] at z; exact z.1), (fun _ => by have z := x14; unfold excB at z; simp only [Bool.and_eq_true, decide_eq_true_eq] at z; exact z.1), (fun _ => by have z := x15; unfold excB at z; simp only [Bool.and_eq_true, decide_eq_true_eq] at z; exact z.1), (fun _ => by have z := x16; unfold excB at z; simp only [Bool.and_eq_true, decide_eq_true_eq] at z; exact z.1), (fun _ => by have z := x17; unfold excB at z; simp only [Bool.and_eq_true, decide_eq_true_eq] at z; exact z.1), (fun _ => by have z := x18; unfold excB at z; simp only [Bool.and_eq_true, decide_eq_true_eq] at z; exact z.1), (fun _ => by have z := x19; unfold excB at z; simp only [Bool.and_eq_true, decide_eq_true_eq] at z; exact z.1), (fun _ => by have z := x20; unfold excB at z; simp only [Bool.and_eq_true, decide_eq_true_eq] at z; exact z.1), (fun _ => by have z := x21; unfold excB at z; simp only [Bool.and_eq_true, decide_eq_true_eq] at z; exact z.1), (fun _ => by have z := x22; unfold excB at z; simp only [Bool.and_eq_true, decide_eq_true_eq] at z; exact z.1), (fun _ => by have z := x23; unfold excB at z; simp only [Bool.and_eq_true, decide_eq_true_eq] at z; exact z.1), (fun _ => by have z := x24; unfold excB at z; simp only [Bool.and_eq_true, decide_eq_true_eq] at z; exact z.1), (fun _ => by have z := x25; unfold excB at z; simp only [Bool.and_eq_true, decide_eq_true_eq] at z; exact z.1), (fun _ => by have z := x26; unfold excB at z; simp only [Bool.and_eq_true, decide_eq_true_eq] at z; exact z.1), (fun _ => by have z := x27; unfold excB at z; simp only [Bool.and_eq_true, decide_eq_true_eq] at z; exact z.1), (fun _ => by have z := x28; unfold excB at z; simp only [Bool.and_eq_true, decide_eq_true_eq] at z; exact z.1), trivial⟩
  · exact all_at (Q := fun k (x : Str) => pg.exc k = true → PySem.W.typeIn K (.ref ((fun k => [c0, c1, c2, c3, c4, c5, c6, c7, c8, c9, c10, c11, c12, c13, c14, c15, c16, c17, c18, c19, c20, c21, c22, c23, c24, c25, c26, c27, c28].getD k c0) k)) = some (.type "type")) (fs := pd.cls) ⟨(fun z => absurd z (by decide +kernel)), (fun _ => by have z := x1; unfold excB at z; simp only [Bool.and_eq_true, decide_eq_true_eq] at z; exact z.2), (fun _ => by have z := x2; unfold excB at z; simp only [Bool.and_eq_true, decide_eq_true_eq] at z; exact z.2), (fun _ => by have z := x3; unfold excB at z; simp only [Bool.and_eq_true, decide_eq_true_eq] at z; exact z.2), (fun _ => by have z := x4; unfold excB at z; simp only [Bool.and_eq_true, decide_eq_true_eq] at z; exact z.2), (fun _ => by have z := x5; unfold excB at z; simp only [Bool.and_eq_true, decide_eq_true_eq] at z; exact z.2), (fun _ => by have z := x6; unfold excB at z; simp only [Bool.and_eq_true, decide_eq_true_eq] at z; exact z.2), (fun _ => by have z := x7; unfold excB at z; simp only [Bool.and_eq_true, decide_eq_true_eq] at z; exact z.2), (fun _ => by have z := x8; unfold excB at z; simp only [Bool.and_eq_true, decide_eq_true_eq] at z; exact z.2), (fun _ => by have z := x9; unfold excB at z; simp only [Bool.and_eq_true, decide_eq_true_eq] at z; exact z.2), (fun _ => by have z := x10; unfold excB at z; simp only [Bool.and_eq_true, decide_eq_true_eq] at z; exact z.2), (fun _ => by have z := x11; unfold excB at z; simp only [Bool.and_eq_true, decide_eq_true_eq] at z; exact z.2), (fun _ => by have z := x12; unfold excB at z; simp only [Bool.and_eq_true, decide_eq_true_eq] at z; exact z.2), (fun _ => by have z := x13; unfold excB at z; simp only [Bool.and_eq_true, decide_eq_true_eq] at z; exact z.2), (fun _ => by have z := x14; unfold excB at z; simp only [Bool.and_eq_true, decide_eq_true_eq] at z; exact z.2), (fun _ => by have z := x15; unfold excB at z; simp only [Bool.and_eq_true, decide_eq_true_eq] at z; exact z.2), (fun _ => by have z := x16; unfold excB at z; simp only [Bool.and_eq_true, decide_eq_true_eq] at z; exact z.2), (fun _ => by have z := x17; unfold excB at z; simp only [Bool.and_eq_true, decide_eq_true_eq] at z; exact z.2), (fun _ => by have z := x18; unfold excB at z; simp only [Bool.and_eq_true, decide_eq_true_eq] at z; exact z.2), (fun _ => by have z := x19; unfold excB at z; simp only [Bool.and_eq_true, decide_eq_true_eq] at z; exact z.2), (fun _ => by have z := x20; unfold excB at z; simp only [Bool.and_eq_true, decide_eq_true_eq] at z; exact z.2), (fun _ => by have z := x21; unfold excB at z; simp only [Bool.and_eq_true, decide_eq_true_eq] at z; exact z.2), (fun _ => by have z := x22; unfold excB at z; simp only [Bool.and_eq_true, decide_eq_true_eq] at z; exact z.2), (fun _ => by have z := x23; unfold excB at z; simp only [Bool.and_eq_true, decide_eq_true_eq] at z; exact z.2), (fun _ => by have z := x24; unfold excB at z; simp only [Bool.and_eq_true, decide_eq_true_eq] at z; exact z.2), (fun _ => by have z := x25; unfold excB at z; simp only [Bool.and_eq_true, decide_eq_true_eq] at z; exact z.2), (fun _ => by have z := x26; unfold excB at z; simp only [Bool.and_eq_true, decide_eq_true_eq] at z; exact z.2), (fun _ => by have z := x27; unfold excB at z; simp only [Bool.and_eq_true, decide_eq_true_eq] at z; exact z.2), (fun _ => by have z := x28; unfold excB at z; simp only [Bool.and_eq_true, decide_eq_true_eq] at z; exact z.2), trivial⟩
  · exact all_at (Q := fun k (x : Str) => pg.exc k = true → (pg.xfs k = [] ∧ ∃ bmB B newId initId, ExcBaseFacts B newId initId bmB ∧ PySem.W.excIn K ((fun k => [c0, c1, c2, c3, c4, c5, c6, c7, c8, c9, c10, c11, c12, c13, c14, c15, c16, c17, c18, c19, c20, c21, c22, c23, c24, c25, c26, c27, c28].getD k c0) k) bmB newId = true) ∨ InitAt K mg ((fun k => [c0, c1, c2, c3, c4, c5, c6, c7, c8, c9, c10, c11, c12, c13, c14, c15, c16, c17, c18, c19, c20, c21, c22, c23, c24, c25, c26, c27, c28].getD k c0) k) (pg.xfs k)) (fs := pd.cls) ⟨(fun z => absurd z (by decide +kernel)), (fun _ => .inl ⟨rfl, _, _, _, _, PySem.F.excBase_ValueError, y1⟩), (fun _ => .inr (iniB_ok n2 (self := "self") (le := "LoafError") (PySem.W.mg_of X Gn ca1) (.all (fun us hl => match us, hl with | [_, _], _ => rfl)) ⟨_, _, _, _, _, _, _, _, _, _, _, _, _, _, _, rfl, li2, di2, isc_NoStuff, ick_NoStuff⟩)), (fun _ => .inr (iniB_ok n3 (self := "self") (le := "LoafError") (PySem.W.mg_of X Gn ca1) (.all (fun us hl => match us, hl with | [_, _], _ => rfl)) ⟨_, _, _, _, _, _, _, _, _, _, _, _, _, _, _, rfl, li3, di3, isc_NoName, ick_NoName⟩)), (fun _ => .inl ⟨rfl, _, _, _, _, PySem.F.excBase_ValueError, y4⟩), (fun _ => .inr (iniB_ok n5 (self := "self") (le := "LoafError") (PySem.W.mg_of X Gn ca1) (.all (fun us hl => match us, hl with | [_, _, _], _ => rfl)) ⟨_, _, _, _, _, _, _, _, _, _, _, _, _, _, _, rfl, li5, di5, isc_Unknown, ick_Unknown⟩)), (fun _ => .inr (iniB_ok n6 (self := "self") (le := "LoafError") (PySem.W.mg_of X Gn ca1) (.all (fun us hl => match us, hl with | [_, _], _ => rfl)) ⟨_, _, _, _, _, _, _, _, _, _, _, _, _, _, _, rfl, li6, di6, isc_Uneven, ick_Uneven⟩)), (fun _ => .inr (iniB_ok n7 (self := "self") (le := "LoafError") (PySem.W.mg_of X Gn ca1) (.all (fun us hl => match us, hl with | [_, _], _ => rfl)) ⟨_, _, _, _, _, _, _, _, _, _, _, _, _, _, _, rfl, li7, di7, isc_Twice, ick_Twice⟩)), (fun _ => .inl ⟨rfl, _, _, _, _, PySem.F.excBase_ValueError, y8⟩), (fun _ => .inr (iniB_ok n9 (self := "self") (le := "LoafError") (PySem.W.mg_of X Gn ca1) (.all (fun us hl => match us, hl with | [_, _, _], _ => rfl)) ⟨_, _, _, _, _, _, _, _, _, _, _, _, _, _, _, rfl, li9, di9, isc_Short, ick_Short⟩)), (fun _ => .inr (iniB_ok n10 (self := "self") (le := "LoafError") (PySem.W.mg_of X Gn ca1) (.all (fun us hl => match us, hl with | [_, _], _ => rfl)) ⟨_, _, _, _, _, _, _, _, _, _, _, _, _, _, _, rfl, li10, di10, isc_Ring, ick_Ring⟩)), (fun _ => .inl ⟨rfl, _, _, _, _, PySem.F.excBase_ValueError, y11⟩), (fun _ => .inl ⟨rfl, _, _, _, _, PySem.F.excBase_ValueError, y12⟩), (fun _ => .inl ⟨rfl, _, _, _, _, PySem.F.excBase_ValueError, y13⟩), (fun _ => .inl ⟨rfl, _, _, _, _, PySem.F.excBase_ValueError, y14⟩), (fun _ => .inl ⟨rfl, _, _, _, _, PySem.F.excBase_ValueError, y15⟩), (fun _ => .inl ⟨rfl, _, _, _, _, PySem.F.excBase_ValueError, y16⟩), (fun _ => .inl ⟨rfl, _, _, _, _, PySem.F.excBase_ValueError, y17⟩), (fun _ => .inr (iniB_ok n18 (self := "self") (le := "LoafError") (PySem.W.mg_of X Gn ca1) (.all (fun us hl => match us, hl with | [_, _], _ => rfl)) ⟨_, _, _, _, _, _, _, _, _, _, _, _, _, _, _, rfl, li18, di18, isc_NoPan, ick_NoPan⟩)), (fun _ => .inr (iniB_ok n19 (self := "self") (le := "LoafError") (PySem.W.mg_of X Gn ca1) (.all (fun us hl => match us, hl with | [_, _], _ => rfl)) ⟨_, _, _, _, _, _, _, _, _, _, _, _, _, _, _, rfl, li19, di19, isc_NoOrder, ick_NoOrder⟩)), (fun _ => .inl ⟨rfl, _, _, _, _, PySem.F.excBase_ValueError, y20⟩), (fun _ => .inr (iniB_ok n21 (self := "self") (le := "LoafError") (PySem.W.mg_of X Gn ca1) (.all (fun us hl => match us, hl with | [_, _], _ => rfl)) ⟨_, _, _, _, _, _, _, _, _, _, _, _, _, _, _, rfl, li21, di21, isc_NoFlour, ick_NoFlour⟩)), (fun _ => .inr (iniB_ok n22 (self := "self") (le := "LoafError") (PySem.W.mg_of X Gn ca1) (.all (fun us hl => match us, hl with | [_, _], _ => rfl)) ⟨_, _, _, _, _, _, _, _, _, _, _, _, _, _, _, rfl, li22, di22, isc_NoFeel, ick_NoFeel⟩)), (fun _ => .inr (iniB_ok n23 (self := "self") (le := "LoafError") (PySem.W.mg_of X Gn ca1) (.all (fun us hl => match us, hl with | [_, _], _ => rfl)) ⟨_, _, _, _, _, _, _, _, _, _, _, _, _, _, _, rfl, li23, di23, isc_NoDough, ick_NoDough⟩)), (fun _ => .inl ⟨rfl, _, _, _, _, PySem.F.excBase_ValueError, y24⟩), (fun _ => .inl ⟨rfl, _, _, _, _, PySem.F.excBase_ValueError, y25⟩), (fun _ => .inr (iniB_ok n26 (self := "self") (le := "LoafError") (PySem.W.mg_of X Gn ca1) (.all (fun us hl => match us, hl with | [_, _], _ => rfl)) ⟨_, _, _, _, _, _, _, _, _, _, _, _, _, _, _, rfl, li26, di26, isc_Late, ick_Late⟩)), (fun _ => .inl ⟨rfl, _, _, _, _, PySem.F.excBase_ValueError, y27⟩), (fun _ => .inr (iniB_ok n28 (self := "self") (le := "LoafError") (PySem.W.mg_of X Gn ca1) (.all (fun us hl => match us, hl with | [_, _], _ => rfl)) ⟨_, _, _, _, _, _, _, _, _, _, _, _, _, _, _, rfl, li28, di28, isc_Dry, ick_Dry⟩)), trivial⟩
  · exact exmB_ok K (fun i z => exc_lt z) hE
  · exact xisB_ok K (G := ⟨K, (fun k => [f0, f1, f2, f3, f4, f5, f6, f7, f8, f9, f10, f11, f12, f13, f14, f15, f16, f17, f18, f19, f20, f21, f22, f23, f24].getD k f0), (fun k => [c0, c1, c2, c3, c4, c5, c6, c7, c8, c9, c10, c11, c12, c13, c14, c15, c16, c17, c18, c19, c20, c21, c22, c23, c24, c25, c26, c27, c28].getD k c0)⟩) (P := pd) (fun i z => exc_lt z) hX
end Q16

namespace Q16
open L4 PySem
open scoped Rat
theorem gc_WORDS : pg.gcs[0]? = some ((Str.ofString "WORDS", (.tup [(.str "flour"), (.str "water"), (.str "salt"), (.str "thirst"), (.str "price")])) : Str × D) := rfl
theorem gc_ONE : pg.gcs[1]? = some ((Str.ofString "ONE", (.tup [(.int 1), (.int 1)])) : Str × D) := rfl
theorem gc_NOUGHT : pg.gcs[2]? = some ((Str.ofString "NOUGHT", (.tup [(.int 0), (.int 1)])) : Str × D) := rfl
theorem gc_LETTERS : pg.gcs[3]? = some ((Str.ofString "LETTERS", (.str "abcdefghijklmnopqrstuvwxyz")) : Str × D) := rfl
theorem gc_MOST_LETTERS : pg.gcs[4]? = some ((Str.ofString "MOST_LETTERS", (.int 10)) : Str × D) := rfl
theorem w_common {n : Nat} : ComS (wpCall pd (n + 1)) i_common  := fun a b S Q E h => c_common rfl (commonB h)
theorem w_fraction {n : Nat} : FraS (wpCall pd (n + 2)) i_fraction  := fun a b S Q E hb hs h => c_fraction rfl (fractionB w_common hb hs h)
theorem w_plus {n : Nat} : PluS (wpCall pd (n + 3)) i_plus  := fun p q S Q E hp hq h => c_plus rfl (plusB w_fraction hp hq h)
theorem w_is_less {n : Nat} : LesS (wpCall pd (n + 1)) i_is_less  := fun p q S Q E hp hq h => c_is_less rfl (lessB hp hq h)
theorem w_sum_of {n : Nat} : SumS (wpCall pd (n + 4)) i_sum_of  := fun qs x S Q E hx hs h => c_sum_of rfl (sumofB w_plus gc_NOUGHT hx hs h)
theorem w_is_whole {n : Nat} : WhoS (wpCall pd (n + 1)) i_is_whole  := fun x S Q E hx h => c_is_whole rfl (wholeB hx h)
theorem w_is_name {n : Nat} : NamS (wpCall pd (n + 1)) i_is_name  := fun x S Q E hx hl h => c_is_name rfl (isnameB gc_LETTERS gc_MOST_LETTERS hx hl h)
theorem w_is_fraction {n : Nat} : FriS (wpCall pd (n + 2)) i_is_fraction  := fun x S Q E hx h => c_is_fraction rfl (isfractionB w_is_whole w_common hx h)
theorem w_is_measure {n : Nat} : MeaS (wpCall pd (n + 3)) i_is_measure  := fun x S Q E hx h => c_is_measure rfl (ismeasureB w_is_fraction hx h)
theorem w_or_none {n : Nat} : OrnS (wpCall pd (n + 1)) i_or_none  := fun x S Q E h => c_or_none rfl (ornoneB gc_NOUGHT h)
theorem w_first_wrong {n : Nat} : FwrS (wpCall pd (n + 5)) i_first_wrong  := fun nm a b c d e S Q E t0 l0 ta tb tc td te sz h => c_first_wrong rfl (first_wrongB w_is_name w_is_measure w_is_less w_sum_of gc_WORDS gc_ONE t0 l0 ta tb tc td te sz h)
theorem w_Stuff_init__ {n : Nat} : StiS (wpCall pd (n + 6)) i_Stuff_init__ 0 2 := fun p nm a1 a2 a3 a4 a5 S Q E hS t0 l0 ta tb tc td te sz h hE => c_Stuff_init__ rfl (stuinitB w_or_none w_first_wrong hS (by decide +kernel) (by decide +kernel) rfl t0 l0 ta tb tc td te sz h hE)
theorem w_Stuff_measure {n : Nat} : StmS (wpCall pd (n + 1)) i_Stuff_measure 0 := fun nm d ms z i S Q E hz hi h => c_Stuff_measure rfl (stumeasB gc_WORDS (by decide +kernel) hz hi h)
theorem w_law_low {n : Nat} : FraS (wpCall pd (n + 1)) i_law_low  := fun a b S Q E hb hs h => c_law_low rfl (lowB hb hs h)
theorem w_law_draw {n : Nat} : DrwS (wpCall pd (n + 1)) i_law_draw  := fun p o m S Q E hS ho hm hm2 h => c_law_draw rfl (drawB hS ho hm hm2 h)
theorem w_law_name {n : Nat} : NmeS (wpCall pd (n + 2)) i_law_name  := fun p o tk taken S Q E hS ho htk hl h => c_law_name rfl (nameB w_law_draw hS ho htk hl h)
end Q16

namespace Q16
open L4 PySem
local macro_rules | `(tactic| wp_walk using $ls:term,*) => `(tactic| simp only [r_var, r_cst, r_fnv, r_clv, r_tyv, r_gc, r_bin, r_neg, r_nt, r_cmp, r_conj, r_disj, r_ite, r_tup, r_lst, r_dsp0, r_dsp, r_idx, r_fld, r_call, r_callk, r_callv, r_make, r_mcl, r_blt, r_comp, r_fst, r_frz, r_met, r_rvs, r_slc00, r_slc10, r_slc01, r_slc11, r_chain, r_conj1, r_conj2, r_disj1, r_disj2, r_ts0, r_ts1, r_es0, r_es1, r_asg, r_asgc, r_par, r_asgt, r_sub, r_fset, r_exp, r_ret, r_retn, r_ifs, r_fors, r_whil, r_rais, r_pass, r_frzs, r_tryo, r_anm, r_asub, r_as0, r_as1, r_rng1, r_seq, r_txt, r_rev, onB_t, onB_f, onB_n, onI_i, onS_s, onT_t, onR_r, onV_s, onF_f, onO_s, onG_s, sv_t, sv_l, wk_t, wk_l, wk_s, newL_t, newL_f, bin_add, bin_cat, bin_catT, bin_catL, bin_sub, bin_mul, bin_repL, bin_mod, bin_fdiv, bin_pow, c_eq_i, c_eq_s, c_eq_b, c_ne_i, c_ne_s, c_ne_b, c_lt, c_lt_s, c_le, c_gt, c_ge, c_is, c_isnot, idx_tup, idx_lst, idx_scr, atI_0, atI_1, atI_2, atI_3, atI_4, atI_5, atI_6, atI_nat, b_len_tup, b_len_lst, b_len_scr, b_len_str, b_len_dct, b_abs, b_int, b_int_bl, b_max, b_min, b_divmod, b_str_i, b_str_s, b_all, b_any, b_sum, b_list_l, b_list_t, b_tuple_l, wpF, bindG, bindGs, ITs.len, IEs.len, pick, startD, L4.Po.behind, id_eq, Sto.same, Sto.set_set, List.map_cons, List.map_nil, List.length_cons, List.length_nil, List.getElem?_cons_zero, List.getElem?_cons_succ, List.set_cons_zero, List.set_cons_succ, List.replicate, List.cons_append, List.nil_append, List.append_nil, List.filterMap_cons, List.filterMap_nil, Nat.reduceAdd, Nat.reduceSub, Nat.reduceLeDiff, Nat.reduceEqDiff, Int.reduceToNat, Int.reducePow, Int.reduceMul, Int.reduceSub, Int.reduceAdd, Int.reduceNeg, Int.reduceLE, Int.reduceLT, true_and, and_true, decide_true, decide_false, Bool.not_true, Bool.not_false, reduceCtorEq, ne_eq, not_false_eq_true, r_oeq, r_osp, r_cllx, r_ocmp, r_enm, r_zip, zk_tt, zk_ll, r_rng2, r_dct, dk_d, dk_d2, wk_map, c_isb, c_isnotb, oe_int, oe_str, oe_bl, oe_non, oe_tup, oe_lst, oe_ins, os_rep, os_len, eqOk_non, eqOk_int, eqOk_bl, eqOk_str, eqOk_tup, eqOk_lst, eqOk_ins, sl_tup, sl_str, sl_lst, iv_i, fld_i, b_isi, cl_int, cl_bool, cl_str, cl_list, cl_tuple, cl_dict, cl_lt, is_non, is_int, is_bl, is_str, is_tup, is_lst, is_dct, isT, isSub, List.any_cons, List.any_nil, Bool.or_false, Bool.false_or, Bool.or_true, Bool.true_or, Bool.and_true, Bool.true_and, Bool.and_false, Bool.false_and, String.reduceBEq, wkV_g, wkV_ds, wkV_bk, idx_str, m_join, ty_str, wipeD, List.foldl_cons, List.foldl_nil, ix_q0, ix_q1, isNo_non, isNo_int, isNo_str, isNo_bl, isNo_tup, isNo_lst, isNo_ref, isNo_ins, isNo_dct, isNo_frQ, bin_repT, cutL_to, cutL_from, cutL_both, cutN_to, cutN_from, cutN_both, List.take_succ_cons, List.take_zero, List.drop_succ_cons, List.drop_zero, List.take_nil, List.drop_nil, ky_nil, ky_str, ky_tup, ky_lst, ky_non, ky_ins, ky_1, ky_3, ky_q, Bool.true_beq, Bool.false_beq, bin_repS, r_frzo, $[$ls:term],*])
local macro_rules | `(tactic| walk_at "l3 wxs") => `(tactic| simp only [r_var, r_cst, r_fnv, r_clv, r_tyv, r_gc, r_bin, r_neg, r_nt, r_cmp, r_conj, r_disj, r_ite, r_tup, r_lst, r_dsp0, r_dsp, r_idx, r_fld, r_call, r_callk, r_callv, r_make, r_mcl, r_blt, r_comp, r_fst, r_frz, r_met, r_rvs, r_slc00, r_slc10, r_slc01, r_slc11, r_chain, r_conj1, r_conj2, r_disj1, r_disj2, r_ts0, r_ts1, r_es0, r_es1, r_asg, r_asgc, r_par, r_asgt, r_sub, r_fset, r_exp, r_ret, r_retn, r_ifs, r_fors, r_whil, r_rais, r_pass, r_frzs, r_tryo, r_anm, r_asub, r_as0, r_as1, r_rng1, r_seq, r_txt, r_rev, onB_t, onB_f, onB_n, onI_i, onS_s, onT_t, onR_r, onV_s, onF_f, onO_s, onG_s, sv_t, sv_l, wk_t, wk_l, wk_s, newL_t, newL_f, bin_add, bin_cat, bin_catT, bin_catL, bin_sub, bin_mul, bin_repL, bin_mod, bin_fdiv, bin_pow, c_eq_i, c_eq_s, c_eq_b, c_ne_i, c_ne_s, c_ne_b, c_lt, c_lt_s, c_le, c_gt, c_ge, c_is, c_isnot, idx_tup, idx_lst, idx_scr, atI_0, atI_1, atI_2, atI_3, atI_4, atI_5, atI_6, atI_nat, b_len_tup, b_len_lst, b_len_scr, b_len_str, b_len_dct, b_abs, b_int, b_int_bl, b_max, b_min, b_divmod, b_str_i, b_str_s, b_all, b_any, b_sum, b_list_l, b_list_t, b_tuple_l, wpF, bindG, bindGs, ITs.len, IEs.len, pick, startD, L4.Po.behind, id_eq, Sto.same, Sto.set_set, List.map_cons, List.map_nil, List.length_cons, List.length_nil, List.getElem?_cons_zero, List.getElem?_cons_succ, List.set_cons_zero, List.set_cons_succ, List.replicate, List.cons_append, List.nil_append, List.append_nil, List.filterMap_cons, List.filterMap_nil, Nat.reduceAdd, Nat.reduceSub, Nat.reduceLeDiff, Nat.reduceEqDiff, Int.reduceToNat, Int.reducePow, Int.reduceMul, Int.reduceSub, Int.reduceAdd, Int.reduceNeg, Int.reduceLE, Int.reduceLT, true_and, and_true, decide_true, decide_false, Bool.not_true, Bool.not_false, reduceCtorEq, ne_eq, not_false_eq_true, r_oeq, r_osp, r_cllx, r_ocmp, r_enm, r_zip, zk_tt, zk_ll, r_rng2, r_dct, dk_d, dk_d2, wk_map, c_isb, c_isnotb, oe_int, oe_str, oe_bl, oe_non, oe_tup, oe_lst, oe_ins, os_rep, os_len, eqOk_non, eqOk_int, eqOk_bl, eqOk_str, eqOk_tup, eqOk_lst, eqOk_ins, sl_tup, sl_str, sl_lst, iv_i, fld_i, b_isi, cl_int, cl_bool, cl_str, cl_list, cl_tuple, cl_dict, cl_lt, is_non, is_int, is_bl, is_str, is_tup, is_lst, is_dct, isT, isSub, List.any_cons, List.any_nil, Bool.or_false, Bool.false_or, Bool.or_true, Bool.true_or, Bool.and_true, Bool.true_and, Bool.and_false, Bool.false_and, String.reduceBEq, wkV_g, wkV_ds, wkV_bk, idx_str, m_join, ty_str, wipeD, List.foldl_cons, List.foldl_nil, ix_q0, ix_q1, isNo_non, isNo_int, isNo_str, isNo_bl, isNo_tup, isNo_lst, isNo_ref, isNo_ins, isNo_dct, isNo_frQ, bin_repT, cutL_to, cutL_from, cutL_both, cutN_to, cutN_from, cutN_both, List.take_succ_cons, List.take_zero, List.drop_succ_cons, List.drop_zero, List.take_nil, List.drop_nil, ky_nil, ky_str, ky_tup, ky_lst, ky_non, ky_ins, ky_1, ky_3, ky_q, Bool.true_beq, Bool.false_beq, bin_repS, r_frzo])
local macro_rules | `(tactic| walk_at "l3 wst") => `(tactic| (refine stepS rfl ?_; walk_at "l3 wxs"))
local macro_rules | `(tactic| walk_at "l3 wnl") => `(tactic| (refine nilS rfl ?_; (try walk_at "l3 wxs")))
local macro_rules | `(tactic| walk_at "l3 shw") => `(tactic| repeat' (first | assumption | exact shn_bl | exact shn_non | exact shn_int (by assumption) | exact shn_itxt (by assumption) | exact List.forall_mem_nil _ | refine List.forall_mem_cons.mpr (And.intro ?_ ?_) | refine shn_tup (Nat.le_of_ble_eq_true rfl) ?_ | refine shn_lst (Nat.le_of_ble_eq_true rfl) ?_ | refine shn_dct (Nat.le_of_ble_eq_true rfl) rfl ?_ ?_ | exact tell_key (by assumption)))
open scoped Rat
section
variable {n : Nat} {S : Sto} {Q : PoE} {E : PoX}
theorem low_q {a b : Int} {K : PoE} {E' : PoX} (hb : 0 < b) (hz : b.natAbs < 2 ^ 900) (h : K (frQ (a /. b)) S) : wpCall pd (n+1) i_law_low [.int a, .int b] none S K E' :=
  w_law_low _ _ _ _ _ (by omega) (Nat.lt_of_lt_of_le hz (Nat.pow_le_pow_right (by decide) (by decide))) h
theorem rx_is {C : CallF} {P : Pg} {k : Nat} {fs : List (Str × D)} {c : IE} {fr : Fr} {S : Sto} {Q : PoE} {E : PoX} : wpE C P (some ⟨.cls k, fs⟩) (.xis c) fr S Q E = wpE C P (some ⟨.cls k, fs⟩) c fr S (fun y S1 => P.exc k = true ∧ onO (clsX P y) fun us => Q (.bl (us.any (isX P k))) S1) E := by
  conv => lhs; unfold wpE
  congr 1
  funext y S1
  cases clsX P y <;> rfl
theorem rx_fd {C : CallF} {P : Pg} {k : Nat} {fs : List (Str × D)} {f : Str} {fr : Fr} {S : Sto} {Q : PoE} {E : PoX} : wpE C P (some ⟨.cls k, fs⟩) (.xfd f) fr S Q E = (P.exc k = true ∧ onO (fs.lookup f) fun d => Q d S) := by
  conv => lhs; unfold wpE
  unfold onO
  dsimp only
  cases fs.lookup f <;> rfl
theorem exc3 {j : Nat} (hj : j = 2 ∨ j = 3 ∨ j = 4) : pg.exc j = true := by rcases hj with rfl | rfl | rfl <;> decide +kernel
theorem w_law_others {j : Nat} {fs : List (Str × D)} (hj : j = 2 ∨ j = 3 ∨ j = 4) (h : Q (.lst [.bl false, .bl false, .bl false, .bl false]) S) : wpCall pd (n+1) i_law_others [] (some ⟨.cls j, fs⟩) S Q E := by
  refine c_law_others rfl ?_
  have he := exc3 hj
  have f1 : [Cl.cls 28, .cls 27, .cls 26, .cls 25, .cls 24, .cls 23, .cls 22, .cls 21, .cls 20].any (isX pg j) = false := by rcases hj with rfl | rfl | rfl <;> decide +kernel
  have f2 : [Cl.cls 19, .cls 18, .cls 17, .cls 16, .cls 15, .cls 14, .cls 13, .cls 12].any (isX pg j) = false := by rcases hj with rfl | rfl | rfl <;> decide +kernel
  have f3 : [Cl.cls 11, .cls 10, .cls 9, .cls 8].any (isX pg j) = false := by rcases hj with rfl | rfl | rfl <;> decide +kernel
  have f4 : [Cl.cls 7, .cls 6, .cls 5].any (isX pg j) = false := by rcases hj with rfl | rfl | rfl <;> decide +kernel
  refine stepS rfl ?_
  (wp_walk using rx_is, he, show clsX pg (.tup [.cls 28, .cls 27, .cls 26, .cls 25, .cls 24, .cls 23, .cls 22, .cls 21, .cls 20]) = some [.cls 28, .cls 27, .cls 26, .cls 25, .cls 24, .cls 23, .cls 22, .cls 21, .cls 20] from rfl, f1)
  refine stepS rfl ?_
  (wp_walk using rx_is, he, show clsX pg (.tup [.cls 19, .cls 18, .cls 17, .cls 16, .cls 15, .cls 14, .cls 13, .cls 12]) = some [.cls 19, .cls 18, .cls 17, .cls 16, .cls 15, .cls 14, .cls 13, .cls 12] from rfl, f2)
  refine ⟨by unfold Line; decide, ?_⟩
  refine stepS rfl ?_
  (wp_walk using rx_is, he, show clsX pg (.tup [.cls 11, .cls 10, .cls 9, .cls 8]) = some [.cls 11, .cls 10, .cls 9, .cls 8] from rfl, f3, show clsX pg (.tup [.cls 7, .cls 6, .cls 5]) = some [.cls 7, .cls 6, .cls 5] from rfl, f4)
  exact ⟨by unfold Line; decide, _, le0, h⟩

structure Wd (x : D) : Prop where
  ty : tyOk x = true
  nw : ∀ t, x = .str t → t ∉ words5
  sf : ∀ S, itmEq S x x = true

theorem w_fracX {a : Int} {K : PoE} {E' : PoX} (h : E' ⟨.cls 4, []⟩ S) : wpCall pd (n+1) i_fraction [.int a, .int 0] none S K E' :=
  c_fraction rfl (fractionX (k_common := i_common) rfl h)
theorem w_deed0 {q : Rat} {st : D} (h : E ⟨.cls 4, []⟩ S) : wpCall pd (n+3) i_law_deed [.int 0, st, frQ q] none S Q E := by
  refine c_law_deed rfl ?_
  refine stepS rfl ?_
  walk_at "l3 wxs"
  refine stepS rfl ?_
  walk_at "l3 wxs"
  exact w_fracX ⟨_, le0, h⟩
theorem w_deed1 {q : Rat} {st : D} (hq : Sz 100 q) (h : E ⟨.cls 4, []⟩ S) : wpCall pd (n+4) i_law_deed [.int 1, st, frQ q] none S Q E := by
  refine c_law_deed rfl ?_
  refine stepS rfl ?_
  (wp_walk using show ((1 : Int) = 0) = False by simp)
  walk_at "l3 wnl"
  refine stepS rfl ?_
  walk_at "l3 wxs"
  refine stepS rfl ?_
  walk_at "l3 wxs"
  refine c_over rfl ?_
  refine stepS rfl ?_
  walk_at "l3 wxs"
  refine ⟨mul_of hq.1 (show ((1 : Int)).natAbs < 2 ^ 1 by decide) (by decide) (by decide), mul_of hq.den (show ((0 : Int)).natAbs < 2 ^ 1 by decide) (by decide) (by decide), ?_⟩
  rw [Int.mul_zero]
  exact w_fracX ⟨_, le0, _, le0, h⟩
theorem w_deed2 {st x : D} {nm : D} {ms : List D} (hx : Wd x) (h : E ⟨.cls 3, [("who", x)]⟩ S) : wpCall pd (n+4) i_law_deed [.int 2, stuD 0 nm ms, x] none S Q E := by
  refine c_law_deed rfl ?_
  refine stepS rfl ?_
  (wp_walk using show ((2 : Int) = 0) = False by simp)
  walk_at "l3 wnl"
  refine stepS rfl ?_
  (wp_walk using show ((2 : Int) = 1) = False by simp)
  walk_at "l3 wnl"
  refine stepS rfl ?_
  walk_at "l3 wxs"
  refine stepS rfl ?_
  (wp_walk using iv_stu, show pg.mth 0 (Str.ofString "measure") = some i_Stuff_measure by decide +kernel, show (0 < pg.ncl) = True from eq_true (by decide))
  refine ⟨rfl, ?_⟩
  refine c_Stuff_measure rfl ?_
  obtain ⟨t, ht⟩ := tyd_of (S := S) hx.ty
  have fin : wpSs (wpCall pd (n + 2)) pg none b_Stuff_measure_2 [some (stuD 0 nm ms), some x] S { nx := fun fr' S' => wpSs (wpCall pd (n + 2)) pg none b_Stuff_measure_1 fr' S' (retP (fun d S' => ∃ S2, Sto.le S2 S' ∧ Q d S2) (fun x S1 => ∃ S2, Sto.le S2 S1 ∧ E x S2)), rt := fun d S' => ∃ S2, Sto.le S2 S' ∧ ∃ S3, Sto.le S3 S2 ∧ Q d S3, xc := fun x _ S' => ∃ S2, Sto.le S2 S' ∧ ∃ S3, Sto.le S3 S2 ∧ E x S3 } := by
    refine stepS rfl ?_
    walk_at "l3 wxs"
    exact ⟨by simp [show pg.xfs 3 = [Str.ofString "who"] from rfl], _, le0, _, le0, h⟩
  refine stepS rfl ?_
  (wp_walk using is_ty ht)
  rcases (tyI_cases ht).2.1 with ⟨z, rfl⟩ | hn
  · cases ht
    (wp_walk using c_notin, gc_WORDS, onG_s)
    refine in_seq rfl rfl (plain_strs words5) ?_
    rw [show topD S (D.str z) = .str z from rfl]
    change onB (.bl ((words5.map D.str).any fun y => eqD y (.str z))) _ _
    rw [any_str, decide_eq_false (hx.nw z rfl)]
    walk_at "l3 wxs"
    exact fin
  · have e1 : (t == "str") = false := beq_eq_false_iff_ne.mpr hn
    rw [e1]
    walk_at "l3 wxs"
    exact fin
theorem w_deed3 {st nm a1 a2 a3 a4 a5 : D} {w : Str} (t0 : tyOk nm = true) (l0 : ∀ t, nm = .str t → t.length ≤ 16000000) (ta : ∀ x ∈ [a1, a2, a3, a4, a5], x ≠ .non ∧ tyOkP x = true) (sz : ∀ x ∈ [a1, a2, a3], isMs x = true → Sz 900 (ratOf x)) (hw : fwD nm [a1, a2, a3, a4, a5] = .str w)
    (h : ∀ S1, Sto.le S S1 → E ⟨.cls 2, [("field", .str w)]⟩ S1) : wpCall pd (n+8) i_law_deed [.int 3, st, .lst [nm, a1, a2, a3, a4, a5]] none S Q E := by
  refine c_law_deed rfl ?_
  refine stepS rfl ?_
  (wp_walk using show ((3 : Int) = 0) = False by simp)
  walk_at "l3 wnl"
  refine stepS rfl ?_
  (wp_walk using show ((3 : Int) = 1) = False by simp)
  walk_at "l3 wnl"
  refine stepS rfl ?_
  (wp_walk using show ((3 : Int) = 2) = False by simp)
  walk_at "l3 wnl"
  refine stepS rfl ?_
  (wp_walk using show pg.ini 0 = some i_Stuff_init__ from rfl)
  intro p hp
  have e : ∀ x ∈ [a1, a2, a3, a4, a5], orN x = x := fun x hx => by
    have := (ta x hx).1
    cases x <;> first | rfl | exact absurd rfl this
  have ty : ∀ x ∈ [a1, a2, a3, a4, a5], TydP (S.set p (.ins 0 [])) (orN x) := fun x hx => by
    rw [e x hx]
    exact tydP_of (ta x hx).2
  refine w_Stuff_init__ p nm a1 a2 a3 a4 a5 _ _ _ Sto.same (tyd_of t0) l0 (ty _ (by simp)) (ty _ (by simp)) (ty _ (by simp)) (ty _ (by simp)) (ty _ (by simp)) (fun x hx => ?_) (fun z => ?_) (fun w2 z => ?_)
  · rw [e a1 (by simp), e a2 (by simp), e a3 (by simp)] at hx
    exact sz x hx
  · rw [e a1 (by simp), e a2 (by simp), e a3 (by simp), e a4 (by simp), e a5 (by simp), hw] at z
    cases z
  · rw [e a1 (by simp), e a2 (by simp), e a3 (by simp), e a4 (by simp), e a5 (by simp), hw] at z
    cases z
    exact ⟨_, le0, h _ (Sto.le.set hp)⟩

theorem w_told {way : Int} {st th : D} {j : Nat} {fs : List (Str × D)} {ls : List D} (hj : (j = 4 ∧ ls = []) ∨ (j = 3 ∧ ∃ x, fs = [(Str.ofString "who", x)] ∧ ls = [x]) ∨ (j = 2 ∧ ∃ x, fs = [(Str.ofString "field", x)] ∧ ls = [x]))
    (hd : ∀ (S : Sto) (Q : PoE) (E : PoX), (∀ S1, Sto.le S S1 → E ⟨.cls j, fs⟩ S1) → wpCall pd (n+8) i_law_deed [.int way, st, th] none S Q E)
    (h : ∀ S1 p1, Sto.le S S1 → S1 p1 = some (.lst ([.bl (j == 4), .bl (j == 3), .bl (j == 2), .bl true, .bl false, .bl false, .bl false, .bl false] ++ ls)) → Q (.ref p1) S1) : wpCall pd (n+9) i_law_told [.int way, st, th] none S Q E := by
  refine c_law_told rfl ?_
  rcases hj with ⟨rfl, rfl⟩ | ⟨rfl, x, rfl, rfl⟩ | ⟨rfl, x, rfl, rfl⟩
  · have hj2 : (4 : Nat) = 2 ∨ (4 : Nat) = 3 ∨ (4 : Nat) = 4 := by decide
    have he := exc3 hj2
    have g4 : [Cl.cls 4].any (isX pg 4) = true := by decide +kernel
    have g3 : [Cl.cls 3].any (isX pg 4) = false := by decide +kernel
    have g2 : [Cl.cls 2].any (isX pg 4) = false := by decide +kernel
    have gv : [Cl.ty "ValueError"].any (isX pg 4) = true := by decide +kernel
    have gs : [1].any (fun k => pg.sub 4 k) = true := by decide +kernel
    refine stepS rfl ?_
    walk_at "l3 wxs"
    intro p3 n3
    refine stepS rfl ?_
    walk_at "l3 wxs"
    refine stepS rfl ?_
    walk_at "l3 wxs"
    refine hd _ _ _ fun S1 hle => ?_
    refine ⟨he, ?_⟩
    rw [if_pos gs]
    refine ⟨by simp, ?_⟩
    refine stepS rfl ?_
    (wp_walk using rx_is, he, show clsX pg (.cls 4) = some [.cls 4] from rfl, show clsX pg (.cls 3) = some [.cls 3] from rfl, show clsX pg (.cls 2) = some [.cls 2] from rfl, g4, g3, g2, gv, show clsX pg (.ty "ValueError") = some [.ty "ValueError"] from rfl)
    intro p4 n4
    refine stepS rfl ?_
    walk_at "l3 wxs"
    refine w_law_others hj2 ?_
    unfold wpBin
    dsimp only
    simp only [lv, Sto.same]
    refine ⟨by unfold Line; simp, ?_⟩
    rw [newL_f]
    intro p5 n5
    have lee : ∀ o4, Sto.le S (S1.set p4 o4) := fun o4 q o h => Sto.le.set n4 q o (hle q o (Sto.le.set n3 q o h))
    refine stepS rfl ?_
    (wp_walk using rx_is, he, show clsX pg (.cls 3) = some [.cls 3] from rfl, g3)
    walk_at "l3 wnl"
    refine stepS rfl ?_
    (wp_walk using rx_is, he, show clsX pg (.cls 2) = some [.cls 2] from rfl, g2)
    walk_at "l3 wnl"
    walk_at "l3 wnl"
    refine stepS rfl ?_
    walk_at "l3 wxs"
    exact ⟨_, le0, h _ p5 (fun q o h => by
      have e45 : q ≠ p5 := fun e => by
        have h2 := lee (.lst [.bl true, .bl false, .bl false, .bl true]) q o h
        rw [e, n5] at h2
        cases h2
      rw [Sto.ne e45]
      exact lee _ q o h) Sto.same⟩
  · have hj2 : (3 : Nat) = 2 ∨ (3 : Nat) = 3 ∨ (3 : Nat) = 4 := by decide
    have he := exc3 hj2
    have g4 : [Cl.cls 4].any (isX pg 3) = false := by decide +kernel
    have g3 : [Cl.cls 3].any (isX pg 3) = true := by decide +kernel
    have g2 : [Cl.cls 2].any (isX pg 3) = false := by decide +kernel
    have gv : [Cl.ty "ValueError"].any (isX pg 3) = true := by decide +kernel
    have gs : [1].any (fun k => pg.sub 3 k) = true := by decide +kernel
    refine stepS rfl ?_
    walk_at "l3 wxs"
    intro p3 n3
    refine stepS rfl ?_
    walk_at "l3 wxs"
    refine stepS rfl ?_
    walk_at "l3 wxs"
    refine hd _ _ _ fun S1 hle => ?_
    refine ⟨he, ?_⟩
    rw [if_pos gs]
    refine ⟨by simp, ?_⟩
    refine stepS rfl ?_
    (wp_walk using rx_is, he, show clsX pg (.cls 4) = some [.cls 4] from rfl, show clsX pg (.cls 3) = some [.cls 3] from rfl, show clsX pg (.cls 2) = some [.cls 2] from rfl, g4, g3, g2, gv, show clsX pg (.ty "ValueError") = some [.ty "ValueError"] from rfl)
    intro p4 n4
    refine stepS rfl ?_
    walk_at "l3 wxs"
    refine w_law_others hj2 ?_
    unfold wpBin
    dsimp only
    simp only [lv, Sto.same]
    refine ⟨by unfold Line; simp, ?_⟩
    rw [newL_f]
    intro p5 n5
    have lee : ∀ o4, Sto.le S (S1.set p4 o4) := fun o4 q o h => Sto.le.set n4 q o (hle q o (Sto.le.set n3 q o h))
    refine stepS rfl ?_
    (wp_walk using rx_is, he, show clsX pg (.cls 3) = some [.cls 3] from rfl, g3)
    refine stepS rfl ?_
    (wp_walk using rx_fd, he)
    rw [show List.lookup (Str.ofString "who") [(Str.ofString "who", x)] = some x from rfl, onO_s]
    refine ⟨ty_ref Sto.same, m_append Sto.same (by simp) ?_⟩
    rw [Sto.set_set]
    walk_at "l3 wnl"
    refine stepS rfl ?_
    (wp_walk using rx_is, he, show clsX pg (.cls 2) = some [.cls 2] from rfl, g2)
    walk_at "l3 wnl"
    walk_at "l3 wnl"
    refine stepS rfl ?_
    walk_at "l3 wxs"
    exact ⟨_, le0, h _ p5 (fun q o h => by
      have e45 : q ≠ p5 := fun e => by
        have h2 := lee (.lst [.bl false, .bl true, .bl false, .bl true]) q o h
        rw [e, n5] at h2
        cases h2
      rw [Sto.ne e45]
      exact lee _ q o h) Sto.same⟩
  · have hj2 : (2 : Nat) = 2 ∨ (2 : Nat) = 3 ∨ (2 : Nat) = 4 := by decide
    have he := exc3 hj2
    have g4 : [Cl.cls 4].any (isX pg 2) = false := by decide +kernel
    have g3 : [Cl.cls 3].any (isX pg 2) = false := by decide +kernel
    have g2 : [Cl.cls 2].any (isX pg 2) = true := by decide +kernel
    have gv : [Cl.ty "ValueError"].any (isX pg 2) = true := by decide +kernel
    have gs : [1].any (fun k => pg.sub 2 k) = true := by decide +kernel
    refine stepS rfl ?_
    walk_at "l3 wxs"
    intro p3 n3
    refine stepS rfl ?_
    walk_at "l3 wxs"
    refine stepS rfl ?_
    walk_at "l3 wxs"
    refine hd _ _ _ fun S1 hle => ?_
    refine ⟨he, ?_⟩
    rw [if_pos gs]
    refine ⟨by simp, ?_⟩
    refine stepS rfl ?_
    (wp_walk using rx_is, he, show clsX pg (.cls 4) = some [.cls 4] from rfl, show clsX pg (.cls 3) = some [.cls 3] from rfl, show clsX pg (.cls 2) = some [.cls 2] from rfl, g4, g3, g2, gv, show clsX pg (.ty "ValueError") = some [.ty "ValueError"] from rfl)
    intro p4 n4
    refine stepS rfl ?_
    walk_at "l3 wxs"
    refine w_law_others hj2 ?_
    unfold wpBin
    dsimp only
    simp only [lv, Sto.same]
    refine ⟨by unfold Line; simp, ?_⟩
    rw [newL_f]
    intro p5 n5
    have lee : ∀ o4, Sto.le S (S1.set p4 o4) := fun o4 q o h => Sto.le.set n4 q o (hle q o (Sto.le.set n3 q o h))
    refine stepS rfl ?_
    (wp_walk using rx_is, he, show clsX pg (.cls 3) = some [.cls 3] from rfl, g3)
    walk_at "l3 wnl"
    refine stepS rfl ?_
    (wp_walk using rx_is, he, show clsX pg (.cls 2) = some [.cls 2] from rfl, g2)
    refine stepS rfl ?_
    (wp_walk using rx_fd, he)
    rw [show List.lookup (Str.ofString "field") [(Str.ofString "field", x)] = some x from rfl, onO_s]
    refine ⟨ty_ref Sto.same, m_append Sto.same (by simp) ?_⟩
    rw [Sto.set_set]
    walk_at "l3 wnl"
    walk_at "l3 wnl"
    refine stepS rfl ?_
    walk_at "l3 wxs"
    exact ⟨_, le0, h _ p5 (fun q o h => by
      have e45 : q ≠ p5 := fun e => by
        have h2 := lee (.lst [.bl false, .bl false, .bl true, .bl true]) q o h
        rw [e, n5] at h2
        cases h2
      rw [Sto.ne e45]
      exact lee _ q o h) Sto.same⟩
theorem itm_str {S : Sto} {t : Str} : itmEq S (.str t) (.str t) = true := by
  unfold itmEq
  rw [show (plainN 60 (resD 8 S (.str t)) && plainN 60 (resD 8 S (.str t)) && eqD (resD 8 S (.str t)) (resD 8 S (.str t))) = decide (t = t) from rfl, decide_eq_true rfl]
  rfl
theorem itm_bl {S : Sto} {b : Bool} : itmEq S (.bl b) (.bl b) = true := by cases b <;> rfl
theorem lst_self {S : Sto} : ∀ {xs : List D}, (∀ x ∈ xs, itmEq S x x = true) → lstEq S xs xs = true
  | [], _ => rfl
  | x :: xs, h => by
    unfold lstEq
    rw [h x (List.mem_cons_self ..), lst_self fun y hy => h y (List.mem_cons_of_mem _ hy)]
    rfl
theorem dct_ref {S : Sto} {p1 : Addr} {xs : List D} (hS : S p1 = some (.lst xs)) (h : ∀ x ∈ xs, itmEq S x x = true) : dctEq S (.ref p1) (.lst xs) = some true := by
  have e : dctEq0 S (.ref p1) (.lst xs) = none := by
    unfold dctEq0
    simp only [dv, hS]
  unfold dctEq
  rw [e]
  simp only [lv, hS]
  rw [if_pos (lst_self h)]
theorem w_law_word {p : Addr} {o : O} (hS : S p = some o) (ho : PotO o) (h : ∀ x o', Wd x → PotO o' → Q x (S.set p o')) : wpCall pd (n+3) i_law_word [.ref p] none S Q E := by
  refine c_law_word rfl ?_
  refine stepS rfl ?_
  walk_at "l3 wxs"
  refine stepS rfl ?_
  walk_at "l3 wxs"
  refine w_law_draw _ _ _ _ _ _ hS ho (by decide) (by decide) fun w o1 w0 w1 ho1 => ?_
  (try walk_at "l3 wxs")
  refine at_in w0 (by simpa using w1) fun d hd => ?_
  have key : ∃ z, d = .str z ∧ (z = Str.ofString "flour" ∨ z = Str.ofString "water" ∨ z = Str.ofString "salt" ∨ z = Str.ofString "thirst" ∨ z = Str.ofString "price") := by
    simp only [List.mem_cons, List.not_mem_nil, or_false] at hd
    rcases hd with rfl | rfl | rfl | rfl | rfl
    · exact ⟨_, rfl, .inl rfl⟩
    · exact ⟨_, rfl, .inr (.inl rfl)⟩
    · exact ⟨_, rfl, .inr (.inr (.inl rfl))⟩
    · exact ⟨_, rfl, .inr (.inr (.inr (.inl rfl)))⟩
    · exact ⟨_, rfl, .inr (.inr (.inr (.inr rfl)))⟩
  obtain ⟨z, rfl, hz⟩ := key
  have tx : TxOk 10 z := by rcases hz with rfl | rfl | rfl | rfl | rfl <;> (unfold TxOk; decide +kernel)
  have tc : ∀ c ∈ TL.tl z, c < 128 := by rcases hz with rfl | rfl | rfl | rfl | rfl <;> decide +kernel
  have nup : Txt.upper z ∉ words5 := by rcases hz with rfl | rfl | rfl | rfl | rfl <;> decide +kernel
  have nss : z ++ Str.ofString "s" ∉ words5 := by rcases hz with rfl | rfl | rfl | rfl | rfl <;> decide +kernel
  have w32 : ∀ t ∈ words5, 32 ∉ TL.tl t := by decide +kernel
  refine stepS rfl ?_
  walk_at "l3 wxs"
  refine w_law_draw _ _ _ _ _ _ Sto.same ho1 (by decide) (by decide) fun way o2 y0 y1 ho2 => ?_
  rw [Sto.set_set]
  (try walk_at "l3 wxs")
  refine w_law_draw _ _ _ _ _ _ Sto.same ho2 (by decide) (by decide) fun at_ o3 a0 a1 ho3 => ?_
  rw [Sto.set_set]
  (try walk_at "l3 wxs")
  refine stepS rfl ?_
  walk_at "l3 wxs"
  have c1 := (tx.cut (lo := none) (hi := some at_)).ln
  have c2 := (tx.cut (lo := some at_) (hi := none)).ln
  have zl := tx.ln
  have k1 : (Str.ofString "s").length = 1 := rfl
  have k2 : (Str.ofString " ").length = 1 := rfl
  refine ⟨rfl, m_upper (by omega) (tx.upper tc).sok ?_⟩
  refine ⟨by unfold Line; omega, by unfold Line; omega, by unfold Line; omega, by unfold Line; omega, by rw [len_app]; unfold Line; omega, ?_⟩
  rw [show pairsF [.str z, .int 1] = some [(.inr z, .int 1)] from rfl, onO_s]
  refine ⟨by simp, newO_frz ?_⟩
  rw [show frzO (.dct (mergeD [] [(.inr z, D.int 1)])) = .dct [.inr z] [.int 1] from rfl]
  refine stepS rfl ?_
  walk_at "l3 wxs"
  refine ⟨by unfold Line; decide, ?_⟩
  refine stepS rfl ?_
  walk_at "l3 wxs"
  refine w_law_name _ _ _ words5 _ _ _ Sto.same ho3 (fun o' => rfl) (by decide) fun t o4 ht hn ho4 => ?_
  rw [Sto.set_set]
  refine ⟨by unfold Line; decide, ?_⟩
  refine at_in y0 (by simpa using y1) fun x hx => ⟨_, le0, h x o4 ?_ ho4⟩
  simp only [List.cons_append, List.nil_append, List.mem_cons, List.not_mem_nil, or_false] at hx
  rcases hx with rfl | rfl | rfl | rfl | rfl | rfl | rfl | rfl | rfl | rfl | rfl
  · exact ⟨rfl, fun u e => by cases e; decide +kernel, fun S => itm_str⟩
  · exact ⟨rfl, fun u e => by cases e; exact nup, fun S => itm_str⟩
  · exact ⟨rfl, fun u e => by cases e; exact nss, fun S => itm_str⟩
  · refine ⟨rfl, fun u e => ?_, fun S => itm_str⟩
    cases e
    intro hm
    refine w32 _ hm ?_
    rw [TL.tl_append, TL.tl_append]
    exact List.mem_append_left _ (List.mem_append_right _ (by decide +kernel))
  · exact ⟨rfl, fun u e => (by cases e), fun S => rfl⟩
  · exact ⟨rfl, fun u e => (by cases e), fun S => rfl⟩
  · refine ⟨rfl, fun u e => (by cases e), fun S => ?_⟩
    unfold itmEq
    rw [show (plainN 60 (resD 8 S (.lst [.str z])) && plainN 60 (resD 8 S (.lst [.str z])) && eqD (resD 8 S (.lst [.str z])) (resD 8 S (.lst [.str z]))) = (decide (z = z) && true) from rfl, decide_eq_true rfl]
    rfl
  · refine ⟨rfl, fun u e => (by cases e), fun S => ?_⟩
    have e0 : dctEq0 S (.dct [.inr z] [.int 1]) (.dct [.inr z] [.int 1]) = some true := by
      simp [dctEq0, dv, getK, plainN, resD, eqD]
    unfold itmEq
    rw [e0]
    simp
  · exact ⟨rfl, fun u e => by cases e; decide +kernel, fun S => itm_str⟩
  · exact ⟨rfl, fun u e => by cases e; decide +kernel, fun S => itm_str⟩
  · exact ⟨rfl, fun u e => by cases e; exact hn, fun S => itm_str⟩
theorem w_law_right {p : Addr} {o : O} (hS : S p = some o) (ho : PotO o) (h : ∀ S', Q (.bl true) S') : wpCall pd (n+14) i_law_right [.ref p] none S Q E := by
  refine c_law_right rfl ?_
  refine stepS rfl ?_
  walk_at "l3 wxs"
  refine stepS rfl ?_
  walk_at "l3 wxs"
  refine w_law_name _ _ _ [] _ _ _ hS ho (fun o' => rfl) (by simp) fun t o1 ht _ ho1 => ?_
  refine stepS rfl ?_
  (wp_walk using show pg.ini 0 = some i_Stuff_init__ from rfl)
  have ok : StOk 10 t 0 0 0 0 (7 /. 2) := ⟨ht, meas0, meas0, meas0, meas0, ⟨div_nn (by decide) (by decide), Sz.of (by decide) (by decide) (by decide)⟩, by grind⟩
  refine mkStuB w_Stuff_init__ ok (by decide) rfl rfl rfl rfl (show orN (.tup [.int 7, .int 2]) = frQ (7 /. 2) from frQ_pair (by decide) (by decide)) ?_
  refine stepS rfl ?_
  walk_at "l3 wxs"
  refine ⟨by decide, ⟨by decide, by decide⟩, ?_⟩
  refine w_law_draw _ _ _ _ _ _ Sto.same ho1 (by decide) (by decide) fun u o2 u0 u1 ho2 => ?_
  rw [Sto.set_set]
  refine ⟨by decide, ?_⟩
  walk_at "l3 wxs"
  refine ⟨by decide, ?_⟩
  refine w_law_draw _ _ _ _ _ _ Sto.same ho2 (by decide) (by decide) fun v o3 v0 v1 ho3 => ?_
  rw [Sto.set_set]
  (try walk_at "l3 wxs")
  refine low_q (by omega) (Nat.lt_of_lt_of_le (show (1 + v).natAbs < 2 ^ 41 by omega) (Nat.pow_le_pow_right (by decide) (by decide))) ?_
  have zq : Sz 100 ((u - 1000000000000 + 1) /. (1 + v)) := (Sz.of (e := 41) (by omega) (by omega) (by omega)).mono (by decide)
  generalize (u - 1000000000000 + 1) /. (1 + v) = q at *
  refine stepS rfl ?_
  walk_at "l3 wxs"
  refine w_law_draw _ _ _ _ _ _ Sto.same ho3 (by decide) (by decide) fun at_ o4 a0 a1 ho4 => ?_
  rw [Sto.set_set]
  refine stepS rfl ?_
  walk_at "l3 wxs"
  intro p2 n2
  have e2 : p ≠ p2 := Sto.fresh n2 Sto.same
  obtain ⟨k, rfl⟩ := Int.eq_ofNat_of_zero_le a0
  have hk : k = 0 ∨ k = 1 ∨ k = 2 ∨ k = 3 ∨ k = 4 ∨ k = 5 := by omega
  have rest : ∀ (args : List D) (fld : Str), (∀ (S : Sto) (Q : PoE) (E : PoX), (∀ S1, Sto.le S S1 → E ⟨.cls 2, [(Str.ofString "field", .str fld)]⟩ S1) → wpCall pd (n+12) i_law_deed [.int 3, stuD 0 (.str t) [frQ 0, frQ 0, frQ 0, frQ 0, frQ (7 /. 2)], .lst args] none S Q E) → ([D.str (Str.ofString "name"), .str (Str.ofString "flour"), .str (Str.ofString "water"), .str (Str.ofString "salt"), .str (Str.ofString "thirst"), .str (Str.ofString "price")])[k]? = some (.str fld) →
      wpSs (wpCall pd (n + 13)) pg none b_law_right_12 [some (.ref p), some (.lst [.str (Str.ofString "flour"), .str (Str.ofString "water"), .str (Str.ofString "salt"), .str (Str.ofString "thirst"), .str (Str.ofString "price")]), some (.str t), some (stuD 0 (.str t) [frQ 0, frQ 0, frQ 0, frQ 0, frQ (7 /. 2)]), some (frQ q), some (.int (k : Int)), some (.lst args), none, none, none, none, none, none] (S.set p o4) (retP Q E) := by
    intro args fld hd3 hf
    refine stepS rfl ?_
    walk_at "l3 wxs"
    refine w_law_word Sto.same ho4 fun x o5 hx ho5 => ?_
    rw [Sto.set_set]
    refine stepS rfl ?_
    walk_at "l3 wxs"
    refine stepS rfl ?_
    walk_at "l3 wxs"
    refine ⟨by unfold Line; decide, by unfold Line; decide, by unfold Line; decide, by unfold Line; decide, ?_⟩
    intro p6 n6
    refine stepS rfl ?_
    walk_at "l3 wxs"
    rw [hf, onO_s]
    refine ⟨ty_ref Sto.same, ?_⟩
    refine ⟨by unfold Line; decide, by unfold Line; decide, by unfold Line; decide, ?_⟩
    refine m_append Sto.same (by simp) ?_
    rw [Sto.set_set]
    refine stepS rfl ?_
    (wp_walk using Sto.same, frzO, Sto.del_set n6)
    refine stepS rfl ?_
    walk_at "l3 wxs"
    refine for_rng (fun m fr S' => ∃ u10 u11 u12, fr = [some (.ref p), some (.lst [.str (Str.ofString "flour"), .str (Str.ofString "water"), .str (Str.ofString "salt"), .str (Str.ofString "thirst"), .str (Str.ofString "price")]), some (.str t), some (stuD 0 (.str t) [frQ 0, frQ 0, frQ 0, frQ 0, frQ (7 /. 2)]), some (frQ q), some (.int (k : Int)), some (.lst args), some x, some (.lst [.bl true, .bl false, .bl false, .bl false, .bl false]), some (.lst [.lst [.bl true, .bl false, .bl false, .bl true, .bl false, .bl false, .bl false, .bl false], .lst [.bl true, .bl false, .bl false, .bl true, .bl false, .bl false, .bl false, .bl false], .lst [.bl false, .bl true, .bl false, .bl true, .bl false, .bl false, .bl false, .bl false, x], .lst [.bl false, .bl false, .bl true, .bl true, .bl false, .bl false, .bl false, .bl false, .str fld]]), u10, u11, u12]) ?_ ?_ ⟨_, _, _, rfl⟩
    · rintro m fr S' K hm ⟨u10, u11, u12, rfl⟩ hK
      refine ⟨_, rfl, ?_⟩
      have cmp : ∀ (S1 : Sto) (p1 : Addr) (xs : List D) (K : PoE), S1 p1 = some (.lst xs) → (∀ y ∈ xs, itmEq S1 y y = true) → K (.bl false) S1 → wpCmp .ne (.ref p1) (.lst xs) S1 K := fun S1 p1 xs K hS1 hit hK => c_neX (r := true) (dct_ref hS1 hit) hK
      have bls : ∀ (S1 : Sto) (xs : List D), (∀ y ∈ xs, (∃ b, y = .bl b) ∨ y = x ∨ y = .str fld) → ∀ y ∈ xs, itmEq S1 y y = true := fun S1 xs hx2 y hy => by
        rcases hx2 y hy with ⟨b, rfl⟩ | rfl | rfl
        · exact itm_bl
        · exact hx.sf S1
        · exact itm_str
      refine stepS rfl ?_
      walk_at "l3 wxs"
      refine for_cons trivial rfl ?_
      refine stepS rfl ?_
      walk_at "l3 wxs"
      refine w_told (n := n + 4) (j := 4) (fs := []) (ls := []) (.inl ⟨rfl, rfl⟩) (fun S Q E hE => w_deed0 (hE S le0)) fun S1 p1 _ hS1 => ?_
      refine cmp _ _ _ _ hS1 (bls _ _ fun y hy => ?_) ?_
      · simp only [List.cons_append, List.nil_append, List.mem_cons, List.not_mem_nil, or_false] at hy
        rcases hy with rfl | rfl | rfl | rfl | rfl | rfl | rfl | rfl
        all_goals first | exact .inl ⟨_, rfl⟩ | exact .inr (.inl rfl) | exact .inr (.inr rfl)
      walk_at "l3 wxs"
      walk_at "l3 wnl"
      walk_at "l3 wnl"
      refine for_cons trivial rfl ?_
      refine stepS rfl ?_
      walk_at "l3 wxs"
      refine w_told (n := n + 4) (j := 4) (fs := []) (ls := []) (.inl ⟨rfl, rfl⟩) (fun S Q E hE => w_deed1 zq (hE S le0)) fun S1 p1 _ hS1 => ?_
      refine cmp _ _ _ _ hS1 (bls _ _ fun y hy => ?_) ?_
      · simp only [List.cons_append, List.nil_append, List.mem_cons, List.not_mem_nil, or_false] at hy
        rcases hy with rfl | rfl | rfl | rfl | rfl | rfl | rfl | rfl
        all_goals first | exact .inl ⟨_, rfl⟩ | exact .inr (.inl rfl) | exact .inr (.inr rfl)
      walk_at "l3 wxs"
      walk_at "l3 wnl"
      walk_at "l3 wnl"
      refine for_cons trivial rfl ?_
      refine stepS rfl ?_
      walk_at "l3 wxs"
      refine w_told (n := n + 4) (j := 3) (fs := [(Str.ofString "who", x)]) (ls := [x]) (.inr (.inl ⟨rfl, x, rfl, rfl⟩)) (fun S Q E hE => w_deed2 (st := .non) hx (hE S le0)) fun S1 p1 _ hS1 => ?_
      refine cmp _ _ _ _ hS1 (bls _ _ fun y hy => ?_) ?_
      · simp only [List.cons_append, List.nil_append, List.mem_cons, List.not_mem_nil, or_false] at hy
        rcases hy with rfl | rfl | rfl | rfl | rfl | rfl | rfl | rfl | rfl
        all_goals first | exact .inl ⟨_, rfl⟩ | exact .inr (.inl rfl) | exact .inr (.inr rfl)
      walk_at "l3 wxs"
      walk_at "l3 wnl"
      walk_at "l3 wnl"
      refine for_cons trivial rfl ?_
      refine stepS rfl ?_
      walk_at "l3 wxs"
      refine w_told (n := n + 4) (j := 2) (fs := [(Str.ofString "field", .str fld)]) (ls := [.str fld]) (.inr (.inr ⟨rfl, _, rfl, rfl⟩)) (fun S Q E hE => hd3 S Q E hE) fun S1 p1 _ hS1 => ?_
      refine cmp _ _ _ _ hS1 (bls _ _ fun y hy => ?_) ?_
      · simp only [List.cons_append, List.nil_append, List.mem_cons, List.not_mem_nil, or_false] at hy
        rcases hy with rfl | rfl | rfl | rfl | rfl | rfl | rfl | rfl | rfl
        all_goals first | exact .inl ⟨_, rfl⟩ | exact .inr (.inl rfl) | exact .inr (.inr rfl)
      walk_at "l3 wxs"
      walk_at "l3 wnl"
      walk_at "l3 wnl"
      refine for_nil trivial ?_
      refine stepS rfl ?_
      walk_at "l3 wxs"
      rw [show [D.str (Str.ofString "flour"), .str (Str.ofString "water"), .str (Str.ofString "salt"), .str (Str.ofString "thirst"), .str (Str.ofString "price")] = words5.map D.str from rfl]
      refine comp_pure (α := Str) D.str (fun z => if z = Str.ofString "price" then frQ (7 /. 2) else frQ 0) trivial (by decide) (fun d hd K2 hK2 => ⟨_, rfl, ?_⟩) ?_
      · (wp_walk using iv_stu, show pg.mth 0 (Str.ofString "measure") = some i_Stuff_measure by decide +kernel, show (0 < pg.ncl) = True from eq_true (by decide))
        refine ⟨rfl, ?_⟩
        simp only [words5, List.mem_cons, List.not_mem_nil, or_false] at hd
        rcases hd with rfl | rfl | rfl | rfl | rfl
        · exact w_Stuff_measure _ _ _ _ 0 _ _ _ (by decide +kernel) rfl (by rw [if_neg (by decide +kernel)] at hK2; exact hK2)
        · exact w_Stuff_measure _ _ _ _ 1 _ _ _ (by decide +kernel) rfl (by rw [if_neg (by decide +kernel)] at hK2; exact hK2)
        · exact w_Stuff_measure _ _ _ _ 2 _ _ _ (by decide +kernel) rfl (by rw [if_neg (by decide +kernel)] at hK2; exact hK2)
        · exact w_Stuff_measure _ _ _ _ 3 _ _ _ (by decide +kernel) rfl (by rw [if_neg (by decide +kernel)] at hK2; exact hK2)
        · exact w_Stuff_measure _ _ _ _ 4 _ _ _ (by decide +kernel) rfl (by rw [if_pos rfl] at hK2; exact hK2)
      · have e5 : (words5.map fun z => if z = Str.ofString "price" then frQ (7 /. 2) else frQ 0) = [frQ 0, frQ 0, frQ 0, frQ 0, frQ (7 /. 2)] := by
          simp only [words5, List.map_cons, List.map_nil]
          rw [if_neg (by decide +kernel), if_neg (by decide +kernel), if_neg (by decide +kernel), if_neg (by decide +kernel), if_pos trivial]
        rw [e5]
        refine ⟨by unfold Line; decide, by unfold Line; decide, ?_⟩
        have e6 : ([[D.tup [D.int 0, D.int 1]], [D.tup [D.int 0, D.int 1]], [D.tup [D.int 0, D.int 1]], [D.tup [D.int 0, D.int 1]]].flatten ++ [D.tup [D.int 7, D.int 2]]) = [frQ 0, frQ 0, frQ 0, frQ 0, frQ (7 /. 2)] := by
          rw [← show (.tup [.int 7, .int 2] : D) = frQ (7 /. 2) from frQ_pair (by decide) (by decide)]
          rfl
        rw [e6]
        have pl : plainN 60 (.lst [frQ 0, frQ 0, frQ 0, frQ 0, frQ (7 /. 2)]) = true := by simp [plainN, plainNs, frQ]
        refine c_ne pl pl ?_
        rw [show topD S1 (.lst [frQ 0, frQ 0, frQ 0, frQ 0, frQ (7 /. 2)]) = .lst [frQ 0, frQ 0, frQ 0, frQ 0, frQ (7 /. 2)] from rfl, show eqD (.lst [frQ 0, frQ 0, frQ 0, frQ 0, frQ (7 /. 2)]) (.lst [frQ 0, frQ 0, frQ 0, frQ 0, frQ (7 /. 2)]) = true by simp [eqD, eqDs, frQ]]
        walk_at "l3 wxs"
        walk_at "l3 wnl"
        walk_at "l3 wnl"
        exact hK _ _ ⟨_, _, _, rfl⟩
    · rintro fr S' ⟨u10, u11, u12, rfl⟩
      refine stepS rfl ?_
      walk_at "l3 wxs"
      exact ⟨_, le0, h _⟩
  have isn : isNm (.str t) = true := decide_eq_true ht
  have tl : t.length ≤ 16000000 := by have := ht.1.2; rw [len_of_tl]; omega
  have tas : ∀ xs : List D, (∀ x ∈ xs, ∃ a b : Int, x = .tup [.int a, .int b]) → ∀ x ∈ xs, x ≠ D.non ∧ tyOkP x = true := fun xs h x hx => by
    obtain ⟨a, b, rfl⟩ := h x hx
    exact ⟨by simp, rfl⟩
  have szs : ∀ xs : List D, (∀ x ∈ xs, ∃ a b : Int, x = .tup [.int a, .int b] ∧ 0 < b ∧ a.natAbs < 2 ^ 10 ∧ b.natAbs < 2 ^ 10) → ∀ x ∈ xs, isMs x = true → Sz 900 (ratOf x) := fun xs h x hx _ => by
    obtain ⟨a, b, rfl, h0, h1, h2⟩ := h x hx
    exact (Sz.of (e := 10) (by omega) h1 h2).mono (by decide)
  refine stepS rfl ?_
  rcases hk with rfl | rfl | rfl | rfl | rfl | rfl
  · walk_at "l3 wxs"
    rw [show b2I (decide ((0 : Int) < ((0 : Nat) : Int))) = 0 from rfl, atI_0, List.getElem?_cons_zero, onO_s]
    rw [put_lst Sto.same]
    walk_at "l3 wxs"
    rw [show ((0 : Nat) : Int) = 0 from rfl, ixN_0, onO_s]
    refine stepS rfl ?_
    (wp_walk using Sto.same, frzO, Sto.del_set n2)
    refine rest [.int 7, .tup [.int 1, .int 2], .tup [.int 1, .int 3], .tup [.int 1, .int 6], .tup [.int 0, .int 1], .tup [.int 3, .int 1]] (Str.ofString "name") (fun S Q E h => w_deed3 (n := n + 4) rfl (fun t e => by cases e) (tas _ ?_) (szs _ ?_) ?_ h) rfl
    · simp
    · intro x hx
      simp only [List.mem_cons, List.not_mem_nil, or_false] at hx
      rcases hx with rfl | rfl | rfl <;> exact ⟨_, _, rfl, by decide, by decide, by decide⟩
    · unfold fwD
      dsimp only
      rw [if_pos (show isNm (.int 7) = false from rfl)]
  · walk_at "l3 wxs"
    rw [show b2I (decide ((0 : Int) < ((1 : Nat) : Int))) = 1 from rfl, atI_1, List.getElem?_cons_succ, List.getElem?_cons_zero, onO_s]
    rw [put_lst Sto.same]
    walk_at "l3 wxs"
    rw [ixN_nat (by decide), onO_s]
    refine stepS rfl ?_
    (wp_walk using Sto.same, frzO, Sto.del_set n2)
    refine rest [.str t, .tup [.int (-1), .int 2], .tup [.int (1), .int 3], .tup [.int (1), .int 6], .tup [.int (0), .int 1], .tup [.int (3), .int 1]] (Str.ofString "flour") (fun S Q E h => w_deed3 (n := n + 4) rfl (fun t' e => by cases e; exact tl) (tas _ ?_) (szs _ ?_) ?_ h) rfl
    · simp
    · intro x hx
      simp only [List.mem_cons, List.not_mem_nil, or_false] at hx
      rcases hx with rfl | rfl | rfl <;> exact ⟨_, _, rfl, by decide, by decide, by decide⟩
    · unfold fwD
      dsimp only
      rw [if_neg (by rw [isn]; decide)]
      repeat first | rw [if_pos (by decide +kernel)] | rw [if_neg (by decide +kernel)]
  · walk_at "l3 wxs"
    rw [show b2I (decide ((0 : Int) < ((2 : Nat) : Int))) = 1 from rfl, atI_1, List.getElem?_cons_succ, List.getElem?_cons_zero, onO_s]
    rw [put_lst Sto.same]
    walk_at "l3 wxs"
    rw [ixN_nat (by decide), onO_s]
    refine stepS rfl ?_
    (wp_walk using Sto.same, frzO, Sto.del_set n2)
    refine rest [.str t, .tup [.int (1), .int 2], .tup [.int (-1), .int 2], .tup [.int (1), .int 6], .tup [.int (0), .int 1], .tup [.int (3), .int 1]] (Str.ofString "water") (fun S Q E h => w_deed3 (n := n + 4) rfl (fun t' e => by cases e; exact tl) (tas _ ?_) (szs _ ?_) ?_ h) rfl
    · simp
    · intro x hx
      simp only [List.mem_cons, List.not_mem_nil, or_false] at hx
      rcases hx with rfl | rfl | rfl <;> exact ⟨_, _, rfl, by decide, by decide, by decide⟩
    · unfold fwD
      dsimp only
      rw [if_neg (by rw [isn]; decide)]
      repeat first | rw [if_pos (by decide +kernel)] | rw [if_neg (by decide +kernel)]
  · walk_at "l3 wxs"
    rw [show b2I (decide ((0 : Int) < ((3 : Nat) : Int))) = 1 from rfl, atI_1, List.getElem?_cons_succ, List.getElem?_cons_zero, onO_s]
    rw [put_lst Sto.same]
    walk_at "l3 wxs"
    rw [ixN_nat (by decide), onO_s]
    refine stepS rfl ?_
    (wp_walk using Sto.same, frzO, Sto.del_set n2)
    refine rest [.str t, .tup [.int (1), .int 2], .tup [.int (1), .int 3], .tup [.int (-1), .int 2], .tup [.int (0), .int 1], .tup [.int (3), .int 1]] (Str.ofString "salt") (fun S Q E h => w_deed3 (n := n + 4) rfl (fun t' e => by cases e; exact tl) (tas _ ?_) (szs _ ?_) ?_ h) rfl
    · simp
    · intro x hx
      simp only [List.mem_cons, List.not_mem_nil, or_false] at hx
      rcases hx with rfl | rfl | rfl <;> exact ⟨_, _, rfl, by decide, by decide, by decide⟩
    · unfold fwD
      dsimp only
      rw [if_neg (by rw [isn]; decide)]
      repeat first | rw [if_pos (by decide +kernel)] | rw [if_neg (by decide +kernel)]
  · walk_at "l3 wxs"
    rw [show b2I (decide ((0 : Int) < ((4 : Nat) : Int))) = 1 from rfl, atI_1, List.getElem?_cons_succ, List.getElem?_cons_zero, onO_s]
    rw [put_lst Sto.same]
    walk_at "l3 wxs"
    rw [ixN_nat (by decide), onO_s]
    refine stepS rfl ?_
    (wp_walk using Sto.same, frzO, Sto.del_set n2)
    refine rest [.str t, .tup [.int (1), .int 2], .tup [.int (1), .int 3], .tup [.int (1), .int 6], .tup [.int (-1), .int 2], .tup [.int (3), .int 1]] (Str.ofString "thirst") (fun S Q E h => w_deed3 (n := n + 4) rfl (fun t' e => by cases e; exact tl) (tas _ ?_) (szs _ ?_) ?_ h) rfl
    · simp
    · intro x hx
      simp only [List.mem_cons, List.not_mem_nil, or_false] at hx
      rcases hx with rfl | rfl | rfl <;> exact ⟨_, _, rfl, by decide, by decide, by decide⟩
    · unfold fwD
      dsimp only
      rw [if_neg (by rw [isn]; decide)]
      repeat first | rw [if_pos (by decide +kernel)] | rw [if_neg (by decide +kernel)]
  · walk_at "l3 wxs"
    rw [show b2I (decide ((0 : Int) < ((5 : Nat) : Int))) = 1 from rfl, atI_1, List.getElem?_cons_succ, List.getElem?_cons_zero, onO_s]
    rw [put_lst Sto.same]
    walk_at "l3 wxs"
    rw [ixN_nat (by decide), onO_s]
    refine stepS rfl ?_
    (wp_walk using Sto.same, frzO, Sto.del_set n2)
    refine rest [.str t, .tup [.int (1), .int 2], .tup [.int (1), .int 3], .tup [.int (1), .int 6], .tup [.int (0), .int 1], .tup [.int (-1), .int 2]] (Str.ofString "price") (fun S Q E h => w_deed3 (n := n + 4) rfl (fun t' e => by cases e; exact tl) (tas _ ?_) (szs _ ?_) ?_ h) rfl
    · simp
    · intro x hx
      simp only [List.mem_cons, List.not_mem_nil, or_false] at hx
      rcases hx with rfl | rfl | rfl <;> exact ⟨_, _, rfl, by decide, by decide, by decide⟩
    · unfold fwD
      dsimp only
      rw [if_neg (by rw [isn]; decide)]
      repeat first | rw [if_pos (by decide +kernel)] | rw [if_neg (by decide +kernel)]
noncomputable abbrev depth : Nat := 30
theorem law_ok (ns : List Int) (hl : ns.length ≤ 63) : wpCall pd depth i_law [.scr (ns.map D.int)] none (fun _ => none) (fun d _ => d = .bl true) (fun _ _ => False) := by
  refine c_law (n := 29) rfl ?_
  walk_at "l3 wst"
  refine ⟨by omega, ?_⟩
  refine comp_rng (fun k acc S' => acc = (List.replicate k true).map D.bl) ?_ ?_ rfl
  · rintro k acc S' hk rfl
    refine ⟨by simp; omega, fun K hK => ⟨_, rfl, ?_⟩⟩
    walk_at "l3 wxs"
    refine c_law_cell (n := 28) rfl (cellB fun i => ?_)
    refine c_law_pot (n := 28) rfl (potB fun p o hp ho => ?_)
    refine w_law_right (n := 15) Sto.same ho fun S' => ?_
    exact hK _ _ (by rw [List.replicate_succ']; simp)
  · rintro acc S' rfl
    walk_at "l3 wxs"
    refine ⟨_, le0, ?_⟩
    rw [show (List.replicate _ true).all id = true from by simp]
end
end Q16

open PySem PySem.W PyProof.Rows
set_option maxRecDepth 100000 in
set_option maxHeartbeats 0 in
theorem PySem.Challenge.cw_loafshares_k16_refusals_told_apart_holds : PySem.Challenge.rw_loafshares_k16_refusals_told_apart.Holds := by
  w_on; o_law; k_head; (case hw => w_witness2)
  k_fill
  refine L4.walk_L (l := PySem.Challenge.rw_loafshares_k16_refusals_told_apart) (P := Q16.pd) (n := Q16.depth) (kl := 0) (f := Q16.f_law) (x := "_law_script") rfl rfl (by decide +kernel) ⟨rfl, by decide, by decide⟩ rfl rfl ?hT Q16.law_ok
  case hT =>
    intro w mg h fa Y Gn hmg
    have KX := PySem.W.kIn_of Y
    refine' L4.hT_of (Q16.facts KX Gn ?ca0 ?ca1 ?ca2 ?ca3 ?ca4 ?ca5 ?ca6 ?ca7 ?ca8 ?ca9 ?ca10 ?ca11 ?ca12 ?ca13 ?ca14 ?ca15 ?ca16 ?ca17 ?ca18 ?ca19 ?ca20 ?ca21 ?ca22 ?ca23 ?ca24 ?ca25 ?ca26 ?ca27 ?ca28 ?a0 ?l0 ?d0 ?k0 ?a1 ?l1 ?d1 ?k1 ?a2 ?l2 ?d2 ?k2 ?a3 ?l3 ?d3 ?k3 ?a4 ?l4 ?d4 ?k4 ?a5 ?l5 ?d5 ?k5 ?a6 ?l6 ?d6 ?k6 ?a7 ?l7 ?d7 ?k7 ?a8 ?l8 ?d8 ?k8 ?a9 ?l9 ?d9 ?tl9 ?tv9 ?k9 ?a10 ?l10 ?d10 ?k10 ?a11 ?l11 ?d11 ?k11 ?a12 ?l12 ?d12 ?k12 ?a13 ?l13 ?d13 ?k13 ?a14 ?l14 ?d14 ?k14 ?a15 ?l15 ?d15 ?k15 ?a16 ?l16 ?d16 ?k16 ?a17 ?l17 ?d17 ?k17 ?a18 ?l18 ?d18 ?k18 ?a19 ?l19 ?d19 ?k19 ?a20 ?l20 ?d20 ?k20 ?a21 ?l21 ?d21 ?k21 ?a22 ?l22 ?d22 ?k22 ?a23 ?l23 ?d23 ?k23 ?a24 ?l24 ?d24 ?k24 ?ck0 ?B0 ?M0 ?ck1 ?x1 ?y1 ?ck2 ?x2 ?gi2 ?li2 ?di2 ?n2 ?ck3 ?x3 ?gi3 ?li3 ?di3 ?n3 ?ck4 ?x4 ?y4 ?ck5 ?x5 ?gi5 ?li5 ?di5 ?n5 ?ck6 ?x6 ?gi6 ?li6 ?di6 ?n6 ?ck7 ?x7 ?gi7 ?li7 ?di7 ?n7 ?ck8 ?x8 ?y8 ?ck9 ?x9 ?gi9 ?li9 ?di9 ?n9 ?ck10 ?x10 ?gi10 ?li10 ?di10 ?n10 ?ck11 ?x11 ?y11 ?ck12 ?x12 ?y12 ?ck13 ?x13 ?y13 ?ck14 ?x14 ?y14 ?ck15 ?x15 ?y15 ?ck16 ?x16 ?y16 ?ck17 ?x17 ?y17 ?ck18 ?x18 ?gi18 ?li18 ?di18 ?n18 ?ck19 ?x19 ?gi19 ?li19 ?di19 ?n19 ?ck20 ?x20 ?y20 ?ck21 ?x21 ?gi21 ?li21 ?di21 ?n21 ?ck22 ?x22 ?gi22 ?li22 ?di22 ?n22 ?ck23 ?x23 ?gi23 ?li23 ?di23 ?n23 ?ck24 ?x24 ?y24 ?ck25 ?x25 ?y25 ?ck26 ?x26 ?gi26 ?li26 ?di26 ?n26 ?ck27 ?x27 ?y27 ?ck28 ?x28 ?gi28 ?li28 ?di28 ?n28 ?hE ?hX ?hI ?gn0 ?gk0 ?gn1 ?gk1 ?gn2 ?gk2 ?gn3 ?gk3 ?gn4 ?gk4 ?z_ValueError ?z_abs ?z_all ?z_bool ?z_divmod ?z_enumerate ?z_int ?z_isinstance ?z_len ?z_max ?z_min ?z_range ?z_str ?z_tuple) KX Gn hmg ?zz
    (case ca0 => k_is)
    (case ca1 => k_is)
    (case ca2 => k_is)
    (case ca3 => k_is)
    (case ca4 => k_is)
    (case ca5 => k_is)
    (case ca6 => k_is)
    (case ca7 => k_is)
    (case ca8 => k_is)
    (case ca9 => k_is)
    (case ca10 => k_is)
    (case ca11 => k_is)
    (case ca12 => k_is)
    (case ca13 => k_is)
    (case ca14 => k_is)
    (case ca15 => k_is)
    (case ca16 => k_is)
    (case ca17 => k_is)
    (case ca18 => k_is)
    (case ca19 => k_is)
    (case ca20 => k_is)
    (case ca21 => k_is)
    (case ca22 => k_is)
    (case ca23 => k_is)
    (case ca24 => k_is)
    (case ca25 => k_is)
    (case ca26 => k_is)
    (case ca27 => k_is)
    (case ca28 => k_is)
    (case a0 => k_is)
    (case l0 => k_is)
    (case d0 => k_is)
    (case k0 => k_is)
    (case a1 => k_is)
    (case l1 => k_is)
    (case d1 => k_is)
    (case k1 => k_is)
    (case a2 => k_is)
    (case l2 => k_is)
    (case d2 => k_is)
    (case k2 => k_is)
    (case a3 => k_is)
    (case l3 => k_is)
    (case d3 => k_is)
    (case k3 => k_is)
    (case a4 => k_is)
    (case l4 => k_is)
    (case d4 => k_is)
    (case k4 => k_is)
    (case a5 => k_is)
    (case l5 => k_is)
    (case d5 => k_is)
    (case k5 => k_is)
    (case a6 => k_is)
    (case l6 => k_is)
    (case d6 => k_is)
    (case k6 => k_is)
    (case a7 => k_is)
    (case l7 => k_is)
    (case d7 => k_is)
    (case k7 => k_is)
    (case a8 => k_is)
    (case l8 => k_is)
    (case d8 => k_is)
    (case k8 => k_is)
    (case a9 => k_is)
    (case l9 => k_is)
    (case d9 => k_is)
    (case tl9 => k_is)
    (case tv9 => kernel_rfl)
    (case k9 => k_is)
    (case a10 => k_is)
    (case l10 => k_is)
    (case d10 => k_is)
    (case k10 => k_is)
    (case a11 => k_is)
    (case l11 => k_is)
    (case d11 => k_is)
    (case k11 => k_is)
    (case a12 => k_is)
    (case l12 => k_is)
    (case d12 => k_is)
    (case k12 => k_is)
    (case a13 => k_is)
    (case l13 => k_is)
    (case d13 => k_is)
    (case k13 => k_is)
    (case a14 => k_is)
    (case l14 => k_is)
    (case d14 => k_is)
    (case k14 => k_is)
    (case a15 => k_is)
    (case l15 => k_is)
    (case d15 => k_is)
    (case k15 => k_is)
    (case a16 => k_is)
    (case l16 => k_is)
    (case d16 => k_is)
    (case k16 => k_is)
    (case a17 => k_is)
    (case l17 => k_is)
    (case d17 => k_is)
    (case k17 => k_is)
    (case a18 => k_is)
    (case l18 => k_is)
    (case d18 => k_is)
    (case k18 => k_is)
    (case a19 => k_is)
    (case l19 => k_is)
    (case d19 => k_is)
    (case k19 => k_is)
    (case a20 => k_is)
    (case l20 => k_is)
    (case d20 => k_is)
    (case k20 => k_is)
    (case a21 => k_is)
    (case l21 => k_is)
    (case d21 => k_is)
    (case k21 => k_is)
    (case a22 => k_is)
    (case l22 => k_is)
    (case d22 => k_is)
    (case k22 => k_is)
    (case a23 => k_is)
    (case l23 => k_is)
    (case d23 => k_is)
    (case k23 => k_is)
    (case a24 => k_is)
    (case l24 => k_is)
    (case d24 => k_is)
    (case k24 => k_is)
    (case ck0 => k_is)
    (case B0 => kernel_rfl)
    (case M0 => kernel_rfl)
    (case ck1 => k_is)
    (case x1 => kernel_rfl)
    (case y1 => kernel_rfl)
    (case ck2 => k_is)
    (case x2 => kernel_rfl)
    (case gi2 => k_is)
    (case li2 => k_is)
    (case di2 => k_is)
    (case n2 => kernel_rfl)
    (case ck3 => k_is)
    (case x3 => kernel_rfl)
    (case gi3 => k_is)
    (case li3 => k_is)
    (case di3 => k_is)
    (case n3 => kernel_rfl)
    (case ck4 => k_is)
    (case x4 => kernel_rfl)
    (case y4 => kernel_rfl)
    (case ck5 => k_is)
    (case x5 => kernel_rfl)
    (case gi5 => k_is)
    (case li5 => k_is)
    (case di5 => k_is)
    (case n5 => kernel_rfl)
    (case ck6 => k_is)
    (case x6 => kernel_rfl)
    (case gi6 => k_is)
    (case li6 => k_is)
    (case di6 => k_is)
    (case n6 => kernel_rfl)
    (case ck7 => k_is)
    (case x7 => kernel_rfl)
    (case gi7 => k_is)
    (case li7 => k_is)
    (case di7 => k_is)
    (case n7 => kernel_rfl)
    (case ck8 => k_is)
    (case x8 => kernel_rfl)
    (case y8 => kernel_rfl)
    (case ck9 => k_is)
    (case x9 => kernel_rfl)
    (case gi9 => k_is)
    (case li9 => k_is)
    (case di9 => k_is)
    (case n9 => kernel_rfl)
    (case ck10 => k_is)
    (case x10 => kernel_rfl)
    (case gi10 => k_is)
    (case li10 => k_is)
    (case di10 => k_is)
    (case n10 => kernel_rfl)
    (case ck11 => k_is)
    (case x11 => kernel_rfl)
    (case y11 => kernel_rfl)
    (case ck12 => k_is)
    (case x12 => kernel_rfl)
    (case y12 => kernel_rfl)
    (case ck13 => k_is)
    (case x13 => kernel_rfl)
    (case y13 => kernel_rfl)
    (case ck14 => k_is)
    (case x14 => kernel_rfl)
    (case y14 => kernel_rfl)
    (case ck15 => k_is)
    (case x15 => kernel_rfl)
    (case y15 => kernel_rfl)
    (case ck16 => k_is)
    (case x16 => kernel_rfl)
    (case y16 => kernel_rfl)
    (case ck17 => k_is)
    (case x17 => kernel_rfl)
    (case y17 => kernel_rfl)
    (case ck18 => k_is)
    (case x18 => kernel_rfl)
    (case gi18 => k_is)
    (case li18 => k_is)
    (case di18 => k_is)
    (case n18 => kernel_rfl)
    (case ck19 => k_is)
    (case x19 => kernel_rfl)
    (case gi19 => k_is)
    (case li19 => k_is)
    (case di19 => k_is)
    (case n19 => kernel_rfl)
    (case ck20 => k_is)
    (case x20 => kernel_rfl)
    (case y20 => kernel_rfl)
    (case ck21 => k_is)
    (case x21 => kernel_rfl)
    (case gi21 => k_is)
    (case li21 => k_is)
    (case di21 => k_is)
    (case n21 => kernel_rfl)
    (case ck22 => k_is)
    (case x22 => kernel_rfl)
    (case gi22 => k_is)
    (case li22 => k_is)
    (case di22 => k_is)
    (case n22 => kernel_rfl)
    (case ck23 => k_is)
    (case x23 => kernel_rfl)
    (case gi23 => k_is)
    (case li23 => k_is)
    (case di23 => k_is)
    (case n23 => kernel_rfl)
    (case ck24 => k_is)
    (case x24 => kernel_rfl)
    (case y24 => kernel_rfl)
    (case ck25 => k_is)
    (case x25 => kernel_rfl)
    (case y25 => kernel_rfl)
    (case ck26 => k_is)
    (case x26 => kernel_rfl)
    (case gi26 => k_is)
    (case li26 => k_is)
    (case di26 => k_is)
    (case n26 => kernel_rfl)
    (case ck27 => k_is)
    (case x27 => kernel_rfl)
    (case y27 => kernel_rfl)
    (case ck28 => k_is)
    (case x28 => kernel_rfl)
    (case gi28 => k_is)
    (case li28 => k_is)
    (case di28 => k_is)
    (case n28 => kernel_rfl)
    (case hE => kernel_rfl)
    (case hX => kernel_rfl)
    (case hI => kernel_rfl)
    (case gn0 => k_is)
    (case gk0 => kernel_rfl)
    (case gn1 => k_is)
    (case gk1 => kernel_rfl)
    (case gn2 => k_is)
    (case gk2 => kernel_rfl)
    (case gn3 => k_is)
    (case gk3 => kernel_rfl)
    (case gn4 => k_is)
    (case gk4 => kernel_rfl)
    (case z_ValueError => k_is)
    (case z_abs => k_is)
    (case z_all => k_is)
    (case z_bool => k_is)
    (case z_divmod => k_is)
    (case z_enumerate => k_is)
    (case z_int => k_is)
    (case z_isinstance => k_is)
    (case z_len => k_is)
    (case z_max => k_is)
    (case z_min => k_is)
    (case z_range => k_is)
    (case z_str => k_is)
    (case z_tuple => k_is)
    (case zz => k_is)

