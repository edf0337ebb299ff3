import PyProof.Rows.All
import Wide.All
import OpenK.AllK
import Wide.FinOn
import HandS.Base
import HandS.Call
import HandS.Exc
import HandS.ExcIs
import PyProof.EqAt
import PyProof.EqKinds
import PyProof.TupleCall
import HandS.ForMost
import HandS.ForExc
import HandS.ForDict
import HandS.IsInst
import HandS.Style
import HandS.Wide
import HandS.WideMore
import HandS.Conv
import HandS.Flow
import HandS.Set
import HandS.SetFor
import HandS.SetKeys
import HandS.StrMore
import HandS.More
import HandS.Steps
import HandS.Evl
import HandS.TupAny
import HandS.Codes
import HandS.Replace
import HandS.DeepEq
import PyProof.NeKinds
import HandS.Finally
import HandS.Deep
import PySem.Challenge.RW_duelsum_k71_swaps
set_option Elab.async false
set_option maxRecDepth 100000
set_option maxHeartbeats 4000000
/-! an exception that is caught and kept under a name behind the suite -/
namespace L2
open PySem PySem.Spec PyProof.Rows
/-- an exception object that was caught, of the class cls, without a dict of its own -/
def ExH (cls : Value) (a : Addr) : HO := .ext fun h => ∃ (oe : Obj) (vs : Array Value), h.get? a = some oe ∧ Zc cls none oe ∧ oe.data = .fields vs
theorem exH_ok {P : Program} {w : World} {H : Hp} {h : Heap} {a : Addr} {cls : Value} {oe : Obj} {vs : Array Value} (e : h.get? a = some oe) (z : Zc cls none oe) (d : oe.data = .fields vs) : ObjOk P w H h a (ExH cls a) :=
  ⟨⟨oe, vs, e, z, d⟩, ⟨oe, e⟩, fun _ _ ⟨o, v, q, r⟩ k => ⟨o, v, k o q, r⟩⟩
section
variable {X : Cx} {pins : List (Addr × Obj)} {σ : St} {H : Hp} {s : Shared}
/-- a pinned record of ours is tracked from now on -/
theorem Inv.track {a : Addr} {oe : Obj} {vs : Array Value} {o : HO} (I : Inv X ((a, oe) :: pins) σ H s) (n0 : X.s_0.heap.get? a = none) (hp : ∀ p ∈ X.pn ++ pins, p.1 ≠ a) (hd : oe.data = .fields vs)
    (new : ObjOk X.prog X.w (upd H a o) s.heap a o) : Inv X pins σ (upd H a o) s := by
  obtain ⟨ea, na, nL, nF, _⟩ := I.pin (a, oe) (List.mem_append_right _ List.mem_cons_self)
  refine ⟨I.ok, I.os, I.bare, ⟨I.base.keep, I.base.slot, fun b u e n hx => ?_, I.base.there, fun b xs e => ?_, fun b u v e => ?_, fun b ps e => ?_⟩, I.loc, I.cell, ?_, fun x c e => ?_, fun p hpm => ?_, fun b u e => ?_, I.len⟩
  · rw [upd_ne (fun z => by rw [z, n0] at e; cases e)]
    exact I.base.free b u e n hx
  · have q := I.base.tups b xs e
    rw [upd_ne (ne_of_none q na)]
    exact q
  · have q := I.base.frzs b u v e
    rw [upd_ne (ne_of_none q na)]
    exact q
  · obtain ⟨m, q⟩ := I.base.tbls b ps e
    exact ⟨m, by rw [upd_ne (ne_of_none q na)]; exact q⟩
  · rw [upd_ne (Ne.symm nL)]
    exact I.free
  · obtain ⟨v, oc, hoc, hcd⟩ := I.cell x c e
    have nc : c ≠ a := fun z => by
      rw [z, ea] at hoc
      cases hoc
      rw [hd] at hcd
      cases hcd
    rw [upd_ne nc]
    exact I.freeC x c e
  · obtain ⟨e, n, ne, nf, d⟩ := I.pin p (by
      rcases List.mem_append.mp hpm with z | z
      · exact List.mem_append_left _ z
      · exact List.mem_append_right _ (List.mem_cons_of_mem _ z))
    exact ⟨e, by rw [upd_ne (hp p hpm)]; exact n, ne, nf, d⟩
  · by_cases hb : b = a
    · subst hb
      rw [upd_same] at e
      cases e
      exact new
    · rw [upd_ne hb] at e
      exact (I.hok b u e).stay (fun c v _ q => q) (fun c q => by rw [upd_ne (ne_of_none q na)]; exact q) fun c xs q => by rw [upd_ne (ne_of_none q na)]; exact q
end
/-- what 'except x as n: v = n' wishes: v's slot j holds the exception from then on, tracked; n's slot i is empty -/
def wKeep (K : PySem.W.Frag) (c : Value) (i j : Nat) (Wout : WX) (D : Ends) : WX := fun cls d σ H =>
  ∃ b, PySem.W.exmOne K cls c = some b ∧ (b = true → d = none ∧ ∀ a, H a = none → D.nx (((σ.set i (some (.ref a))).set j (some (.ref a))).set i none) (upd H a (ExH cls a))) ∧ (b = false → Wout cls d σ H)
section
variable {X : Cx} {x n v : Str} {c : Value} {i j : Nat} {body : List Stmt} {np p1 p2 p3 pos pos' : Pos} {tb : WX → TS} {Wout : WX}
theorem ps_try_keep (hs : X.stack = X.env :: X.outer) (hf : X.env.frame = some X.env.locals) (hN : X.N.Nodup) (hi : X.N[i]? = some n) (hln : X.env.kindOf n = some .local) (hj : X.N[j]? = some v) (hlv : X.env.kindOf v = some .local) (hex : X.ex = [])
    (hc : Names X x c) (tk : Takes X Wout) (hij : i < X.N.length)
    (hb : ∀ (W : WX) (pn : List (Addr × Obj)) (xe : Value → Shared → Prop), Takes (X.tr pn xe) W → PassesOwn (model X.prog X.w) X.A X.env xe → PSs (X.tr pn xe) body (tb W))
    (hdn : (n == ("__debug__" : Str)) = false := by decide) (hdc : (n == ("__classdict__" : Str)) = false := by decide) :
    PS X (.Try body [.ExceptHandler (some (.Name x np)) (some n) [.Assign [.Name v p1] (.Name n p2) p3] pos'] [] [] pos) (fun D σ H => tb (wKeep X.K c i j Wout D) D σ H) := by
  refine ⟨fun pins s σ H D I h => ?_⟩
  have ok := I.ok
  have hfr : X.A.frames = some (X.env :: X.outer) := by rw [ok.frames, hs]
  have hloc : Loc X.env.scope n := .inl hln
  have hlocv : Loc X.env.scope v := .inl hlv
  refine wpAny_Try_except ?_
  refine wpAny_mono ((hb (wKeep X.K c i j Wout D) (X.pn ++ pins) (fun e s₁ => wpAny (model X.prog X.w) X.A (noteFrame e X.env) (fun _ s₂ => wpAny (model X.prog X.w) X.A (setFlight e none) (fun _ s₃ =>
    wpAny (model X.prog X.w) X.A (handleBy e X.env [.ExceptHandler (some (.Name x np)) (some n) [.Assign [.Name v p1] (.Name n p2) p3] pos']) (SP X pins D) X.xe s₃) X.xe s₂) X.xe s₁) (fun u s' xx => ?_) PassesOwn.looking).run [] s σ H D (I.toTry _) h) (fun f s1 hsp => ?_) (fun e s1 he => he)
  · -- the catch
    obtain ⟨a, B, sI, pins', σ', H', cls, d, rfl, J', nb, up, sky, na, os, ag, b, hb1, hyes, hno⟩ := xx
    have J : Inv X pins σ' H' sI := J'.ofTry ok
    have sky' : Sky B (X.env :: X.outer) a (Zc cls d) X.env.locals s'.heap := by rw [← hs]; exact sky
    show wpAny (model X.prog X.w) X.A (noteFrame (.ref a) X.env) _ _ _
    refine Sky.land Zc.steady hfr hf sky' fun h3 fl3 up3 => ?_
    have J3 : Inv X pins σ' H' { s' with heap := h3 } := J.landed nb fl3.1 (up.trans up3) os ag
    obtain ⟨oe3, vs3, he3, hz3, hd3⟩ := fl3.there
    have notFr : ∀ {h : Heap} {o : Obj} {vs : Array Value}, h.FunFrames B (X.env :: X.outer) → h.get? a = some o → o.data = .fields vs → a ∉ frs (X.env :: X.outer) := fun {h o vs} ff e dd hm => by
      obtain ⟨_, o', e', hnf⟩ := ff.mem hm
      rw [e] at e'; cases e'
      exact hnf _ dd
    have nfr := notFr fl3.2.2.1 he3 hd3
    have nL : a ≠ X.env.locals := fun z => nfr (List.mem_filterMap.mpr ⟨X.env, List.mem_cons_self, by rw [hf, z]⟩)
    have nF : a ∉ X.fs := fun hm => by
      obtain ⟨e, he, q⟩ := List.mem_filterMap.mp hm
      exact nfr (List.mem_filterMap.mpr ⟨e, List.mem_cons_of_mem _ he, q⟩)
    have nB : B.get? a = none := fl3.2.1
    have nI : sI.heap.get? a = none := by
      cases e : sI.heap.get? a with
      | none => rfl
      | some o =>
        have z := nb a o e (by rw [hs]; exact nfr)
        rw [nB] at z
        cases z
    have n0 : X.s_0.heap.get? a = none := by
      cases e : X.s_0.heap.get? a with
      | none => rfl
      | some o =>
        obtain ⟨o', z⟩ := J.base.there a o e (by rw [hex]; exact fun q => nomatch q)
        rw [nI] at z
        cases z
    have np' : ∀ p ∈ X.pn ++ pins, p.1 ≠ a := fun p hp z => by
      have q := (J.pin p hp).1
      rw [z, nI] at q
      cases q
    have S3 := J3.suite he3 hd3 na nL nF
    refine wpAny_handleBy_cons (codeAny_handlers_test ?_) (by intro q; cases q)
    have LT : PySem.W.Looks (model X.prog X.w) h3 (typeOf (.ref a)) cls := fun A Q E s k q => wpAny_typeOf_ref (k _ _ he3) (by rw [hz3.1]; exact q)
    have LM := PySem.W.exm_one (M := model X.prog X.w) (J3.kIn) LT hb1
    have test : ∀ {Q : Value → Shared → Prop} {E : Value → Shared → Prop}, Q c { s' with heap := h3 } → wpAny (model X.prog X.w) (X.A.mark (some (.ref a))) (eval (.Name x np) X.env) Q E { s' with heap := h3 } := fun {Q E} q => by
      obtain ⟨hg, hdbg, hm | ⟨hm, hv, hnn⟩⟩ := hc
      · exact ld_glob (X := X.suite a ((a, oe3) :: (X.pn ++ pins))) S3 hg hm q hdbg
      · exact ld_blt (X := X.suite a ((a, oe3) :: (X.pn ++ pins))) S3 hg hm hv q hnn hdbg
    refine test (LM.here ?_)
    cases b with
    | true =>
      refine codeAny_handlers_suite_as ?_
      refine HandSPX.lands_againZ fl3 fun h4 fl4 up4 => ?_
      have J4 : Inv X pins σ' H' { s' with heap := h4 } := J.landed nb fl4.1 ((up.trans up3).trans up4) os ag
      obtain ⟨oe4, vs4, he4, hz4, hd4⟩ := fl4.there
      obtain ⟨rfl, hnx⟩ := hyes rfl
      have S4 := J4.suite he4 hd4 na nL nF
      refine store_ok (X := X.suite a ((a, oe4) :: (X.pn ++ pins))) (v := .ref a) S4 hN hi hloc rfl (fun s5 S5 => ?_) (.inr hln)
      -- v = n
      have hlen : i < σ'.length := by rw [J.len]; exact hij
      have BD : PSs (X.suite a ((a, oe4) :: (X.pn ++ pins))) [.Assign [.Name v p1] (.Name n p2) p3] _ := pss_one (ps_asg (pe_var (i := i) hi (.inl hln) hdn hdc) (pg_name (i := j) hN hj (.inl hlv) (.inr hlv)))
      refine wpAny_mono (BD.run [] s5 _ H' { nx := fun σ6 H6 => σ6 = (σ'.set i (some (.ref a))).set j (some (.ref a)) ∧ H6 = H', rt := fun _ _ => False } S5 ⟨_, List.getElem?_set_self hlen, rfl, rfl⟩) (fun f s6 hsp => ?_) (fun _ _ z => False.elim z)
      cases f with
      | next =>
        obtain ⟨σ6, H6, S6, e1, e2⟩ := hsp
        subst e1 e2
        have T6 : Inv X ((a, oe4) :: pins) ((σ'.set i (some (.ref a))).set j (some (.ref a))) H6 s6 := ⟨ok, S6.os, S6.bare, S6.base, S6.loc, S6.cell, S6.free, S6.freeC, fun p hp => S6.pin p (by
          refine List.mem_append_left _ ?_
          rcases List.mem_append.mp hp with z | z
          · exact List.mem_cons_of_mem _ (List.mem_append_left _ z)
          · rcases List.mem_cons.mp z with z | z
            · rw [z]; exact List.mem_cons_self
            · exact List.mem_cons_of_mem _ (List.mem_append_right _ z)), S6.hok, S6.len⟩
        refine gone_ok T6 hN hi hln fun s7 J7 => ?_
        have ha7 := (J7.pin (a, oe4) (List.mem_append_right _ List.mem_cons_self)).1
        exact ⟨_, _, J7.track n0 np' hd4 (exH_ok ha7 hz4 hd4), hnx a na⟩
      | brk => obtain ⟨_, _, _, q6⟩ := hsp; exact q6.elim
      | cont => obtain ⟨_, _, _, q6⟩ := hsp; exact q6.elim
      | ret u => obtain ⟨_, _, _, _, _, q6⟩ := hsp; exact q6.elim
    | false =>
      show wpAny _ X.A (handleBy (.ref a) X.env []) _ _ _
      refine wpAny_handleBy_nil ?_
      obtain ⟨k1, k2, k3, oe, vs, T, oT, ts', he, hz, hd, h1, hr⟩ := id fl3
      unfold PySem.passOn
      refine wpAny_bind (wpAny_field he hd h1 ?_)
      rw [if_neg (show ¬ ((Value.ref T == Value.none) = true) from by simp)]
      have fin : wpAny (model X.prog X.w) X.A (setFlight (.ref a) X.env.frame) (fun _ s4 => wpAny (model X.prog X.w) X.A (throw (.ref a) : Sem Flow) (SP X pins D) X.xe s4) X.xe { s' with heap := h3 } := by
        rw [hf]
        refine HandSPX.setFlight_upZ fl3 fun h4 hh4 up4 => wpAny_throw (tk _ _ ?_)
        exact ⟨a, B, sI, pins, σ', H', cls, d, rfl, J, nb, (up.trans up3).trans up4, .inr (.inr (by rw [hs]; exact hh4)), na, os, ag, hno rfl⟩
      first
        | exact wpAny_bind (wpAny_pure (wpAny_bind fin))
        | exact wpAny_bind fin
  · cases f with
    | next =>
      obtain ⟨σ', H', J', q⟩ := hsp
      exact wpAny_execs_nil ⟨σ', H', J'.ofTry ok, q⟩
    | brk =>
      obtain ⟨σ', H', J', q⟩ := hsp
      exact ⟨σ', H', J'.ofTry ok, q⟩
    | cont =>
      obtain ⟨σ', H', J', q⟩ := hsp
      exact ⟨σ', H', J'.ofTry ok, q⟩
    | ret u =>
      obtain ⟨v, σ', H', J', r, q⟩ := hsp
      exact ⟨v, σ', H', J'.ofTry ok, r, q⟩
end
/-- isinstance(v, c), v an exception that was kept -/
def rIsH (K : PySem.W.Frag) : List V → Hp → VK → Prop := fun xs H Q => ∃ (a D : Addr) (c : V) (cv : Value) (b : Bool), xs = [.ref a, c] ∧ H a = some (ExH (.ref D) a) ∧ ExcC K D ∧ (∀ u, RelV c u → u = cv) ∧ PySem.W.kitOne K (.ref D) cv = some b ∧ Q (.bl b) H
theorem call_isH {X : Cx} : CallR X (.builtin "isinstance") (rIsH X.K) := by
  intro pins s σ H xs us Q I r h
  obtain ⟨a, D, c, cv, b, rfl, ha, C, hcv, e, q⟩ := h
  cases r with
  | cons rx rr =>
    cases rr with
    | cons rt rr =>
      cases rr
      cases rx
      have ec := hcv _ rt
      subst ec
      obtain ⟨⟨oe, vs, hget, hz, hv⟩, _, _⟩ := I.hok a _ ha
      have J : PySem.W.InstAt s.heap a oe D none := by
        obtain ⟨oc, od, oda, osl⟩ := oe
        obtain ⟨h1, h2⟩ := hz
        dsimp only at h1 h2 hv
        subst h1 h2 hv
        exact ⟨hget, rfl, rfl, trivial⟩
      exact PySem.W.kia_one (PySem.W.handS_kitx_exc C.hg C.hk C.hs C.hd C.ha C.hn C.ht C.hm) I.kIn J e (fun z => nomatch z) fun tk => ⟨.bl b, H, I.kept (t' := tk) fun _ _ z => z, rfl, q⟩
end L2
/-! words of our own, shared by all claims -/
namespace L2
open PySem PySem.Spec PyProof.Rows
/-- what isinstance asks of an own class's instances -/
structure ClsO (K : PySem.W.Frag) (C : Addr) : Prop where
  a : PySem.W.findIn K (.ref C) "__class__" = some (some (.builtin "object.__class__"))
  g : PySem.W.specialIn K (.builtin "object.__class__") "__get__" = some (some (.builtin "getset_descriptor.__get__"))
  t : PySem.W.takesIn K (.builtin "object.__class__") = some true
  m : PySem.W.mroIn K C (.type "object") = some true
/-- what is known of an own exception class without an own __init__ -/
structure ExcF (K : PySem.W.Frag) (C : Addr) : Prop where
  e : PySem.W.excIn K C [.type "ValueError", .type "Exception", .type "BaseException", .type "object"] "ValueError.__new__" = true
  k : PySem.W.keepIn K (.ref C) = true
  b : PySem.W.subIn K (.ref C) (.type "BaseException") = some true
  t : PySem.W.typeIn K (.ref C) = some (.type "type")
  i : PySem.W.isClsIn K C = true
  c : ExcC K C
section
variable {X : Cx} {x m : Str} {j : Nat} {p p2 pos : Pos} {C : Addr}
/-- X('m'), by the facts of the class -/
theorem pmk_F (F : ExcF X.K C) (gC : X.mg x = some (.ref C)) (hg : Gl X x := by rfl) (hdb : (x == ("__debug__" : Str)) = false := by decide) :
    PMk X (.Call (.Name x p) [.Constant (.str m) j p2] [] pos) (fun _ H Q => Q (.ref C) none H) :=
  pmk_own PySem.F.excBase_ValueError F.e gC F.k (raises_own F.b F.t) hg hdb
theorem pe_gI {n : Int} (h : ∃ t, X.mg x = some (.int n t)) (hg : Gl X x := by rfl) (hd : (x == ("__debug__" : Str)) = false := by decide) : PE X (.Name x pos) (tC (.int n)) := pe_glob hg h.choose_spec ⟨_, rfl⟩ hd
theorem pe_gS {n : Str} (h : ∃ t, X.mg x = some (.str n t)) (hg : Gl X x := by rfl) (hd : (x == ("__debug__" : Str)) = false := by decide) : PE X (.Name x pos) (tC (.str n)) := pe_glob hg h.choose_spec ⟨_, rfl⟩ hd
theorem pe_gR {a : Addr} (h : X.mg x = some (.ref a)) (hg : Gl X x := by rfl) (hd : (x == ("__debug__" : Str)) = false := by decide) : PE X (.Name x pos) (tC (.ref a)) := pe_glob hg h rfl hd
theorem pe_gT {n : String} (hm : X.mg x = none) (hv : bootBuiltins x = some (.type n) := by decide +kernel) (hg : Gl X x := by rfl) (hn : x ≠ "__name__" := by decide) (hd : (x == ("__debug__" : Str)) = false := by decide) : PE X (.Name x pos) (tC (.ty n)) := pe_bltn hg hm hv rfl hn hd
/-- a written tuple -/
theorem sqT_K {K : PySem.W.Frag} {H : Hp} {a : Addr} {n : Nat} {vs : List V} (h : ∃ dd m sl its, K.lookup a = some ⟨.type "tuple", dd, .seq its m, sl⟩ ∧ its.size = n ∧ Vals vs its.toList) (hn : n ≤ 1000 := by decide) : SqT K H a vs := by
  obtain ⟨dd, m, sl, its, e, hs, r⟩ := h
  exact .inr ⟨_, its, m, e, rfl, rfl, (by rw [hs]; exact Nat.le_trans hn (by decide)), r⟩
end
/-! ### a method's call, what it raises wished for at the caller's slots -/
section
variable {X : Cx} {CX : CXT} {k : Nat} {f C : Addr} {fd : FuncData} {ps : List Str} {sp : Sp} {E : St → XK} {m : Str} {pos apos : Pos} {e o : Expr} {es : List Expr} {ta : TE} {t : TA}
def tMethW (C : Addr) (m : Str) (sp : Sp) (E : St → XK) (ta : TE) (t : TA) : TE := fun σ H Q => ta σ H fun x H1 => ∃ a dx fs, x = .ref a ∧ H1 a = some (.ins C dx fs) ∧ fs.lookup m = none ∧ t σ H1 fun vs H2 => sp (x :: vs) H2 Q (E σ)
theorem pe_methW {pl : Sem Bool} (he : PE X o ta) (c : Cls X.K C) (hm : Meth X.K C m f) (F : FnOk X.prog X.w X.K X.mg X.base CX k f fd ps sp) (hr : Room k X.A) (hb : Binds X.K fd ps []) (hx : ∀ σ, PassesAt CX X σ (E σ)) (ha : PA X (e :: es) t)
    (hst : starEach (e :: es) X.env = (false, eval e X.env) :: starEach es X.env := by rfl) (hpl : (backTo pos (starEach es X.env)).any (·.1) = false := by rfl)
    (ht : eval (.Call (.Attribute o m apos) (e :: es) [] pos) X.env = (do
      let ov ← eval o X.env
      standAt apos.atName
      let (f, first) ← holding [ov] (getMethod ov m pl)
      callWith pos f first (backTo pos (starEach (e :: es) X.env)) (backToKw pos (keywordEach [] X.env))) := by rfl) :
    PE X (.Call (.Attribute o m apos) (e :: es) [] pos) (tMethW C m sp E ta t) :=
  ⟨fun pins s σ H Q I h => PySem.W.methodCall_KW (pl := pl) (thn (he.run pins s σ H _ I h) fun u s1 ⟨x, H1, I1, rx, a, dx, fs, ex, ea, l, q⟩ => by
    subst ex; cases rx
    exact getmeth_ok I1 ea c hm l (PySem.W.callWith_K (first := [.ref a]) (h₀ := X.base) I.ok.mod.kin hm.kp (thn (ha.run pos pins s1 σ H1 _ I1 q) fun us s2 ⟨vs, H2, I2, r, q2⟩ =>
      ⟨I2.kIn, run_fnS (us := .ref a :: us) (vs := .ref a :: vs) F hr hb (hx σ) I2 (.cons rfl r) q2⟩) hst hpl)) ht⟩
end
end L2
namespace L2
open PySem PySem.Spec PyProof.Rows
theorem kit_own {K : PySem.W.Frag} {t : Value} {C : Addr} {b : Bool} (i : PySem.W.isClsIn K C = true) (ty : PySem.W.typeIn K (.ref C) = some (.type "type")) (hs : PySem.W.subIn K (.ref C) (.ref C) = some true) (h : PySem.W.subIn K t (.ref C) = some b) :
    PySem.W.kitOne K t (.ref C) = some b := by
  unfold PySem.W.kitOne
  by_cases e : (t == Value.ref C) = true
  · rw [if_pos e]
    have e' : t = .ref C := beq_iff_eq.mp e
    rw [e', hs] at h
    exact h
  · rw [if_neg e]
    have i' : (PySem.W.clsIn K C).isSome = true := i
    show (if ((PySem.W.clsIn K C).isSome && PySem.W.typeIn K (.ref C) == some (.type "type")) = true then PySem.W.subIn K t (.ref C) else none) = some b
    rw [i', ty]
    exact h
theorem kit_typ {K : PySem.W.Frag} {D : Addr} {n : String} {b : Bool} (m : PySem.W.kitMeta n = true) (h : PySem.W.subIn K (.ref D) (.type n) = some b) : PySem.W.kitOne K (.ref D) (.type n) = some b := by
  unfold PySem.W.kitOne
  rw [if_neg (by intro z; exact absurd (beq_iff_eq.mp z) (by intro q; cases q))]
  show (if PySem.W.kitMeta n = true then PySem.W.subIn K (.ref D) (.type n) else none) = some b
  rw [if_pos m]
  exact h
theorem not_has {l : List Value} {C : Addr} (h : l.all (fun v => match v with | .type _ => true | _ => false) = true) : l.contains (Value.ref C) = false := by
  induction l with
  | nil => rfl
  | cons v r ih =>
    rw [List.all_cons, Bool.and_eq_true] at h
    rw [List.contains_cons, ih h.2, Bool.or_false]
    cases v <;> first | rfl | exact absurd h.1 Bool.false_ne_true
theorem sub_bt {K : PySem.W.Frag} {n : String} {C : Addr} (h : (PySem.fastBuiltinMro n).any (fun l => l.all (fun v => match v with | .type _ => true | _ => false)) = true) : PySem.W.subIn K (.type n) (.ref C) = some false := by
  show (PySem.fastBuiltinMro n).map (·.contains (Value.ref C)) = some false
  cases e : PySem.fastBuiltinMro n with
  | none => rw [e] at h; cases h
  | some l =>
    rw [e] at h
    have z := not_has (C := C) (show l.all _ = true from h)
    show some (l.contains (Value.ref C)) = some false
    rw [z]
example (K : PySem.W.Frag) (C : Addr) : PySem.W.subIn K (.type "int") (.ref C) = some false := sub_bt (by decide +kernel)
example (K : PySem.W.Frag) (C : Addr) : PySem.W.subIn K (.type "tuple") (.ref C) = some false := sub_bt (by decide +kernel)
end L2
/-! sets of ints or texts, made of a list, put in order -/
namespace SG
open PySem PySem.Spec PyProof.Rows L2
section
variable (P : Program) (w : World)
/-- an entry of a set's table that is the key k -/
def Ent (e : Int × Value) (k : Key) : Prop := e.1 = (mixKind P w).hash k ∧ (mixKind P w).is k e.2 = true
/-- what a table must keep so that its members can be walked -/
def Sound (t : SetTable) : Prop := Ris t.place.toList ∧ (w.params.followText "set-order" = true ∨ t.led = true)
/-- the set at a has just the members ks -/
def SetG (h : Heap) (a : Addr) (ks : List Key) : Prop :=
  ∃ o es ep t, h.get? a = some o ∧ o.ExactSet ∧ o.data = .set es ep t ∧ Paired (Ent P w) es.toList ks ∧ ks.Nodup ∧ es.size < scanBound ∧ t.fits es.size = true ∧ Sound w t
end
section
variable {P : Program} {w : World}
theorem pr_perm {α β : Type} {R : α → β → Prop} {l l' : List α} (p : l.Perm l') : ∀ {m : List β}, Paired R l m → ∃ m', m.Perm m' ∧ Paired R l' m' := by
  induction p with
  | nil => intro m h; cases h; exact ⟨[], .nil, .nil⟩
  | cons x _ ih =>
    intro m h
    cases h with
    | cons r t =>
      obtain ⟨m', q, u⟩ := ih t
      exact ⟨_ :: m', q.cons _, .cons r u⟩
  | swap x y l =>
    intro m h
    cases h with
    | cons r t =>
      cases t with
      | cons r' t' => exact ⟨_, .swap _ _ _, .cons r' (.cons r t')⟩
  | trans _ _ i1 i2 =>
    intro m h
    obtain ⟨m1, q1, u1⟩ := i1 h
    obtain ⟨m2, q2, u2⟩ := i2 u1
    exact ⟨m2, q1.trans q2, u2⟩
theorem pr_left {α β : Type} {R : α → β → Prop} : ∀ {l : List α} {m : List β}, Paired R l m → ∀ x ∈ l, ∃ y ∈ m, R x y
  | _, _, .cons r t, x, h => by
    rcases List.mem_cons.mp h with z | z
    · exact ⟨_, List.mem_cons_self, z ▸ r⟩
    · obtain ⟨y, hy, q⟩ := pr_left t x z
      exact ⟨y, List.mem_cons_of_mem _ hy, q⟩
theorem pr_right {α β : Type} {R : α → β → Prop} : ∀ {l : List α} {m : List β}, Paired R l m → ∀ y ∈ m, ∃ x ∈ l, R x y
  | _, _, .cons r t, y, h => by
    rcases List.mem_cons.mp h with z | z
    · exact ⟨_, List.mem_cons_self, z ▸ r⟩
    · obtain ⟨x, hx, q⟩ := pr_right t y z
      exact ⟨x, List.mem_cons_of_mem _ hx, q⟩
theorem pr_snoc {α β : Type} {R : α → β → Prop} {a : α} {b : β} : ∀ {l : List α} {m : List β}, Paired R l m → R a b → Paired R (l ++ [a]) (m ++ [b])
  | _, _, .nil, r => .cons r .nil
  | _, _, .cons r' t, r => .cons r' (pr_snoc t r)
theorem scan_of {k : Key} {v : Value} (h : (mixKind P w).is k v = true) : v.scannable = true := by
  rcases keyIs_shape h with ⟨i, t, _, e⟩ | ⟨x, t, _, e⟩ <;> (rw [e]; rfl)
theorem ents_elems {l : List (Int × Value)} {ks : List Key} (h : Paired (Ent P w) l ks) : ElemsOf (mixKind P w) l := fun e he => by
  obtain ⟨k, _, h1, h2⟩ := pr_left h e he
  exact ⟨⟨k, h2, h1⟩, scan_of h2⟩
theorem SetG.ob {h : Heap} {a : Addr} {ks : List Key} (R : SetG P w h a ks) : ∃ o, h.get? a = some o := by obtain ⟨o, _, _, _, e, _⟩ := R; exact ⟨o, e⟩
theorem SetG.at {h h' : Heap} {a : Addr} {ks : List Key} (R : SetG P w h a ks) (k : ∀ o, h.get? a = some o → h'.get? a = some o) : SetG P w h' a ks := by
  obtain ⟨o, es, ep, t, e, r⟩ := R
  exact ⟨o, es, ep, t, k o e, r⟩
theorem fresh_sound (w : World) : Sound w (.fresh 0 0 (!w.params.followText "set-order")) := by
  refine ⟨List.Pairwise.nil, ?_⟩
  cases e : w.params.followText "set-order"
  · exact .inr rfl
  · exact .inl rfl
variable {A : Around} {E : Value → Shared → Prop} {s : Shared} {a : Addr} {ks : List Key}
/-- the table written back, laid anew where it has grown too full -/
theorem put_back {g : Bool → Sem Unit} (hg : ∀ (b : Bool) (s₁ : Shared) (Q' : Unit → Shared → Prop), Q' () s₁ → wpAny (model P w) A (g b) Q' E s₁)
    {o : Obj} {es es1 : Array (Int × Value)} {ep : Nat} {t t2 : SetTable} {ks1 : List Key} {wd : Bool} {R : Option Bool → Shared → Prop} (ho : s.heap.get? a = some o) (hex : o.ExactSet) (hd : o.data = .set es ep t)
    (h1 : Paired (Ent P w) es1.toList ks1) (nd : ks1.Nodup) (hb : es1.size < scanBound) (hf : t2.fits es1.size = true) (hs : Sound w t2)
    (hR : ∀ h' ks', Heap.SameBut a s.heap h' → ks1.Perm ks' → SetG P w h' a ks' → R (some true) { s with heap := h' }) :
    wpAny (model P w) A (do
        storeSet a es1 t2
        if (!wd && t2.tooFull) = true then do
          let z := relayAll t2 es1 (SetTable.grown es1.size)
          g z.2.2
          storeSet a z.1 z.2.1
          pure (some true)
        else pure (some true)) R E s := by
  have kept := fun (h : Heap) (es' : Array (Int × Value)) (t' : SetTable) => Heap.SameBut.update h a (Obj.putSet es' t')
  refine wpAny_bind (wpAny_storeSet_of ho hd ?_ (fits_of_scanBound hb))
  have e1 := store_at (es' := es1) (t' := t2) ho hd
  split
  · have q1 := relayAll_perm t2 es1 (SetTable.grown es1.size)
    have q2 := relayAll_fits t2 es1 (SetTable.grown es1.size)
    have q3 := relayAll_ris t2 es1 (SetTable.grown es1.size)
    have q4 := relayAll_led t2 es1 (SetTable.grown es1.size)
    dsimp only
    revert q1 q2 q3 q4
    generalize relayAll t2 es1 (SetTable.grown es1.size) = z
    intro q1 q2 q3 q4
    have zz : z.1.size = es1.size := by have := q1.length_eq; simpa using this
    have hb2 : z.1.size < scanBound := zz ▸ hb
    obtain ⟨ks2, p2, h2⟩ := pr_perm q1.symm h1
    refine wpAny_bind (hg _ _ _ (wpAny_bind (wpAny_storeSet_of e1 rfl ?_ (fits_of_scanBound hb2))))
    have e2 := store_at (es' := z.1) (t' := z.2.1) e1 rfl
    exact wpAny_pure (hR _ ks2 ((kept _ _ _).trans (kept _ _ _)) p2 ⟨_, z.1, _, z.2.1, e2, hex, rfl, h2, p2.nodup_iff.mp nd, hb2, q2, q3, hs.2.imp id fun y => q4.trans y⟩)
  · exact wpAny_pure (hR _ ks1 (kept _ _ _) (List.Perm.refl _) ⟨_, es1, _, t2, e1, hex, rfl, h1, nd, hb, hf, hs⟩)
/-- a key goes in -/
theorem setG_add {k : Key} {v : Value} {Q : Bool → Shared → Prop} (R : SetG P w s.heap a ks) (hv : (mixKind P w).is k v = true) (room : ks.length + 1 < scanBound)
    (hQ : ∀ h' ks' b, Heap.SameBut a s.heap h' → SetG P w h' a ks' → (k ∈ ks → ks.Perm ks') → (k ∉ ks → (k :: ks).Perm ks') → Q b { s with heap := h' }) :
    wpAny (model P w) A (setAddHashed a v ((mixKind P w).hash k)) Q E s := by
  obtain ⟨o, es, ep, t, ho, hex, hd, hE, nd, hb, hf, hs⟩ := id R
  have el := ents_elems hE
  have sc := scan_of hv
  have hlen : es.size = ks.length := by have := Paired.length hE; simpa using this
  unfold setAddHashed setAddHashedIn
  refine wpAny_holding (wpAny_bind (wpAny_setState_of ho hd hf ?_))
  dsimp only
  rw [byScan_of sc hb el, if_pos rfl]
  unfold setAddByScan
  refine wpAny_bind (wpAny_bind (wpAny_rule (wpAny_bind (wpAny_setScan_of hv ho hd hf el ?_))))
  cases hfi : List.findIdx? (fun e => (mixKind P w).is k e.2) es.toList with
  | some j =>
    obtain ⟨hj, pj, _⟩ := List.findIdx?_eq_some_iff_getElem.mp hfi
    obtain ⟨k', hk', _, q'⟩ := pr_left hE _ (List.getElem_mem hj)
    have ke : k = k' := (mixKind P w).inj _ _ _ pj q'
    dsimp only
    refine wpAny_pure (wpAny_pure ?_)
    exact hQ s.heap ks false (.refl a s.heap) R (fun _ => .refl _) fun z => absurd (ke ▸ hk') z
  | none =>
    have hk : k ∉ ks := fun z => by
      obtain ⟨e, he, _, q⟩ := pr_right hE k z
      exact absurd q (by rw [List.findIdx?_eq_none_iff.mp hfi e he]; exact Bool.false_ne_true)
    have gave : ∀ (b : Bool) (s₁ : Shared) (Q' : Unit → Shared → Prop), Q' () s₁ → wpAny (model P w) A (match b with | true => rule "set.scan.the-table-gave-way" | false => pure ()) Q' E s₁ := fun b s₁ Q' q => by
      cases b <;> first | exact wpAny_pure q | exact wpAny_rule q
    have p1 := layNew_perm t es ((mixKind P w).hash k) v
    have p2 := layNew_fits t es ((mixKind P w).hash k) v
    have p3 := layNew_ris t es ((mixKind P w).hash k) v hs.1
    have p4 := layNew_led t es ((mixKind P w).hash k) v
    dsimp only
    revert p1 p2 p3 p4
    generalize layNew t es ((mixKind P w).hash k) v = z
    obtain ⟨es1, t1, wd, gv⟩ := z
    dsimp only
    intro p1 p2 p3 p4
    rw [Array.toList_push] at p1
    have hE1 : Paired (Ent P w) (((mixKind P w).hash k, v) :: es.toList) (k :: ks) := .cons ⟨rfl, hv⟩ hE
    obtain ⟨ks1, m1, u1⟩ := pr_perm ((List.perm_append_singleton _ _).symm.trans p1.symm) hE1
    have hz : es1.size = ks.length + 1 := by
      have := p1.length_eq
      rw [List.length_append] at this
      simpa [hlen] using this
    have hb1 : es1.size < scanBound := hz ▸ room
    have hs1 : Sound w t1 := ⟨p3, hs.2.imp id fun y => p4.trans y⟩
    have nd1 : ks1.Nodup := m1.nodup_iff.mp (List.nodup_cons.mpr ⟨hk, nd⟩)
    have fin : ∀ h' ks', Heap.SameBut a s.heap h' → ks1.Perm ks' → SetG P w h' a ks' → Q true { s with heap := h' } := fun h' ks' sb pm r => hQ h' ks' true sb r (fun z => absurd z hk) fun _ => m1.trans pm
    refine wpAny_bind (gave gv _ _ ?_)
    split
    · rw [hashByValue_scannable 8 sc]
      refine wpAny_bind (wpAny_pure ?_)
      refine put_back gave ho hex hd u1 nd1 hb1 ?_ ?_ fun h' ks' sb pm r => ?_
      · split
        · exact p2
        · exact SetTable.fits_plain_off p2
      · split <;> exact hs1
      · dsimp only; exact wpAny_pure (fin h' ks' sb pm r)
    · refine wpAny_bind (wpAny_pure ?_)
      try rw [if_pos rfl]
      refine put_back gave ho hex hd u1 nd1 hb1 p2 hs1 fun h' ks' sb pm r => ?_
      dsimp only; exact wpAny_pure (fin h' ks' sb pm r)
end
end SG
namespace SG
open PySem PySem.Spec PyProof.Rows L2
section
variable {P : Program} {w : World} {A : Around} {E : Value → Shared → Prop} {s : Shared}
/-- all items of a walk go in -/
theorem fill {I S : Addr} {fp wr : List Addr} {G : Array GenState → Array GenState → Prop} {n : Nat} {Pv : Nat → Value → Prop} {St : Nat → Shared → Prop} {R : Result → Shared → Prop} (W : WalksS P w A.in1 I fp wr G n Pv St) (hS : S ∉ fp)
    (kl : List Key) (hn : n = kl.length) (hb : kl.length + 1 < scanBound) (hval : ∀ i v, Pv i v → ∃ k, kl[i]? = some k ∧ (mixKind P w).is k v = true) :
    ∀ (d i : Nat) (s : Shared) (ks : List Key), i + d = n → St i s → (∀ x, x ∈ ks ↔ x ∈ kl.take i) → ks.length ≤ i → SetG P w s.heap S ks →
      (∀ s' ks', Moved (S :: wr) G s s' → (∀ x, x ∈ ks' ↔ x ∈ kl) → ks'.length ≤ n → SetG P w s'.heap S ks' → R (.ok (.ret .none)) s') →
      codeAny (model P w) A (.builtin "set.update.loop" ⟨[.ref S, .ref I], []⟩) R s := by
  have nw : S ∉ wr := fun z => hS (W.sub S z)
  have more : ∀ b ∈ wr, b ∈ S :: wr := fun b z => List.mem_cons_of_mem S z
  intro d
  induction d with
  | zero =>
    intro i s ks hi st hm hl RS fin
    have hi' : i = n := by simpa using hi
    subst hi'
    refine codeAny_builtin F.entry_set_update_loop ?_
    rw [Around.under_plainId F.plain_set_update_loop _]
    unfold Builtin.«set.update.loop»
    refine wpAny_bind (W.done s _ _ st fun s' mv => ?_)
    refine wpAny_pure (fin s' ks (mv.mono more) (fun x => ?_) hl (RS.at fun o e => mv.heap S o nw e))
    rw [hm x, List.take_of_length_le (by omega)]
  | succ d ih =>
    intro i s ks hi st hm hl RS fin
    refine codeAny_builtin F.entry_set_update_loop ?_
    rw [Around.under_plainId F.plain_set_update_loop _]
    unfold Builtin.«set.update.loop»
    refine wpAny_bind (W.item i s _ _ (by omega) st fun v s' pv st' mv => ?_)
    obtain ⟨k, hk, hv⟩ := hval i v pv
    have RS' := RS.at (h' := s'.heap) fun o e => mv.heap S o nw e
    show wpAny _ A.in1 (holding [v] (setAdd S v) >>= _) _ _ s'
    refine wpAny_bind (wpAny_holding ?_)
    unfold setAdd
    refine wpAny_holding (wpAny_bind ((mixKind P w).pyHash hv ?_))
    have go : ∀ tk, s'.toks ≤ tk → wpAny (model P w) A.in1 (setAddHashed S v ((mixKind P w).hash k)) (fun _ s₂ => wpAny (model P w) A.in1 (pure (Fin.again (.builtin "set.update.loop" ⟨[.ref S, .ref I], []⟩))) (fun fin s' => match fin with | .done f => R (.ok f) s' | .again c' => c'.quiet = true ∧ codeAny (model P w) A c' R s') (fun e s' => R (.error e) s') s₂) (fun e s' => R (.error e) s') { s' with toks := tk } := fun tk htk => by
      refine setG_add (s := { s' with toks := tk }) RS' hv (by omega) fun h' ks' b sb R2 h1 h2 => ?_
      refine wpAny_pure ⟨plainId_quiet F.plain_set_update_loop _, ih (i + 1) _ ks' (by omega) (W.frame _ s' _ _ st' htk fun c hc o e => ?_) (fun x => ?_) ?_ R2 fun s'' ks'' mv2 m2 l2 r2 => ?_⟩
      · exact (sb.2 c fun z => hS (z ▸ hc)).trans e
      · rw [List.take_add_one, hk, List.mem_append]
        by_cases hkk : k ∈ ks
        · rw [← (h1 hkk).mem_iff, hm x]
          exact ⟨.inl, fun z => z.elim id fun z => by
            have : x = k := by simpa using z
            rw [this, ← hm k]; exact hkk⟩
        · rw [← (h2 hkk).mem_iff, List.mem_cons, hm x]
          simp [or_comm]
      · by_cases hkk : k ∈ ks
        · rw [← (h1 hkk).length_eq]; omega
        · rw [← (h2 hkk).length_eq, List.length_cons]; omega
      · refine fin s'' ks'' (Moved.trans W.gtrans ((mv.mono more).then_heap htk fun c o hc e => ?_) mv2) m2 l2 r2
        exact (sb.2 c fun z => hc (z ▸ List.mem_cons_self)).trans e
    exact go _ (by first | exact Nat.le_refl _ | exact Nat.le_succ _)
/-- set(xs), xs a list of ints and texts -/
theorem call_setG {l : Addr} {items : Array Value} {kl : List Key} {Q : Value → Shared → Prop} (hh : A.handled = none) (hl : s.heap.IsList l items) (hk : Paired (fun v k => (mixKind P w).is k v = true) items.toList kl) (hb : kl.length + 1 < scanBound)
    (h : ∀ (h' : Heap) (tk : Nat) (ks : List Key), SetG P w h' s.heap.objs.size ks → (∀ x, x ∈ ks ↔ x ∈ kl) → ks.length ≤ kl.length → (∀ b o, s.heap.get? b = some o → h'.get? b = some o) → Q (.ref s.heap.objs.size) { s with heap := h', toks := tk }) :
    wpAny (model P w) A (call (.type "set") [.ref l]) Q E s := by
  have hsz : items.size = kl.length := by have := Paired.length hk; simpa using this
  obtain ⟨c, tl, hmro⟩ := F.called_set.mro
  have hmade := F.called_set.made
  have hsub := F.called_set.sub
  have h1 := F.called_set.notType
  have h2 := F.called_set.canCreate
  have hct := F.typeCall_set_1 (.ref l)
  have hli := F.called_set.init.lookup
  have hbi := F.called_set.init.bind (.ref s.heap.objs.size)
  refine wpAny_call (codeAny_of_tree ?_)
  show wpAny _ _ (callAny (.type "set") _) _ _ _
  refine wpAny_pure ⟨Code.quiet_builtin _ (by decide +kernel), codeAny_builtin F.entry_type_call ?_⟩
  rw [Around.under_plain (weight_type_call_type "set" [.ref l] []) rfl]
  repeat (any_goals (first | assumption | wp_step))
  let ob : Obj := { cls := .type "set", dict := none, data := .set #[] 0 (.fresh 0 0 (!w.params.followText "set-order")) }
  refine codeAny_mono (code_set_led1 (.ref l) (E := E) (Q₁ := fun v t => v = .ref s.heap.objs.size ∧ t = { s with heap := s.heap.push ob }) ⟨rfl, rfl⟩) fun r t hr => ?_
  rcases r with e | f
  · exact hr
  rcases f with _ | _ | _ | v
  any_goals exact hr.elim
  obtain ⟨rfl, rfl⟩ := hr
  have hS : (s.heap.push ob).get? s.heap.objs.size = some ob := Heap.get?_push_size _ rfl
  have hT : Shared.TypeIs { s with heap := s.heap.push ob } (.ref s.heap.objs.size) "set" := ⟨_, hS, rfl⟩
  repeat (any_goals (first | assumption | wp_step))
  refine codeAny_mono (codeAny_call_builtin (R := wants (fun r t => r = .none ∧ ∃ h' tk ks, t = { s with heap := h', toks := tk } ∧ SetG P w h' s.heap.objs.size ks ∧ (∀ x, x ∈ ks ↔ x ∈ kl) ∧ ks.length ≤ kl.length ∧ ∀ b o, s.heap.get? b = some o → h'.get? b = some o) E)
    F.called_set.init.plain F.entry_set_init (check_set_init_1 hT ?_)) fun r t hr => ?_
  · obtain ⟨ol, hol, hcl, nl, hdl⟩ := id hl
    have hlt : l < s.heap.objs.size := Heap.lt_size hol
    obtain ⟨ocls, odict, odata, oslots⟩ := ol
    simp only at hcl hdl
    subst hcl hdl
    have old : ∀ b u, s.heap.get? b = some u → (s.heap.push ob).get? b = some u := fun b u e => Heap.get?_push_of_some ob e
    have hol' := old _ _ hol
    have hsls := F.sub_list_set
    have hslf := F.sub_list_frozenset
    have hnd : (Value.type "list" == Value.type "dict") = false := by decide
    have hl1 : (s.heap.push ob).IsList l items := ⟨_, hol', rfl, nl, rfl⟩
    have hz1 : (s.heap.push ob).objs.size = s.heap.objs.size + 1 := Heap.size_push ..
    unfold Builtin.«set.__init__» noKeywords Builtin.Frozenset.updateFrom
    generalize hPI : pyIter = PI
    wp_walk
    subst hPI
    refine wpAny_pyIter_list hl1 ?_
    refine wpAny_bind (wpAny_runValue ?_)
    have hh3 : A.in1.in1.in1.handled = none := by simp [hh]
    have nI : l ≠ (s.heap.push ob).objs.size := by rw [hz1]; exact Nat.ne_of_lt (Nat.lt_succ_of_lt hlt)
    have nS : s.heap.objs.size ∉ [(s.heap.push ob).objs.size, l] := by
      rw [hz1]
      intro z
      rcases List.mem_cons.mp z with z | z
      · omega
      · exact Nat.ne_of_gt hlt (List.mem_singleton.mp z)
    have hval : ∀ (i : Nat) (v : Value), items[i]? = some v → ∃ k, kl[i]? = some k ∧ (mixKind P w).is k v = true := fun i v hv => by
      have q : ∀ {us : List Value} {ks : List Key} {i : Nat}, Paired (fun v k => (mixKind P w).is k v = true) us ks → us[i]? = some v → ∃ k, ks[i]? = some k ∧ (mixKind P w).is k v = true := by
        intro us ks i p
        induction p generalizing i with
        | nil => intro e; simp at e
        | cons r _ ih =>
          intro e
          cases i with
          | zero => simp at e; subst e; exact ⟨_, rfl, r⟩
          | succ i => simpa using ih (by simpa using e)
      exact q hk (by rw [Array.getElem?_toList]; exact hv)
    have hS2 : ((s.heap.push ob).push { cls := .type "list_iterator", data := .fields #[.ref l, .int 0 0] }).get? s.heap.objs.size = some ob := Heap.get?_push_of_some _ hS
    refine fill ((Walks.list hh3 _ l nI items).toS) nS kl hsz hb hval items.size 0 _ [] (by omega) ⟨⟨_, Heap.get?_push_size _ rfl, rfl, rfl⟩, (hl1.push _)⟩ (fun x => by simp) (Nat.le_refl _)
      ⟨ob, #[], 0, _, hS2, ⟨rfl, rfl, rfl⟩, rfl, .nil, List.nodup_nil, by decide, rfl, fresh_sound w⟩ fun s' ks' mv hm' hl' R' => ?_
    obtain ⟨h', g', d', tk', os'⟩ := s'
    have eg : g' = s.gens := mv.gens
    have ed : d' = s.drawn := mv.drawn
    have eo : os' = s.os := mv.os
    subst eg ed eo
    refine wpAny_pure (wpAny_pure ⟨rfl, h', tk', ks', rfl, R', hm', hsz ▸ hl', fun b o e => ?_⟩)
    have hb0 : b < s.heap.objs.size := Heap.lt_size e
    refine mv.heap b o (fun z => ?_) (Heap.get?_push_of_some _ (old b o e))
    rcases List.mem_cons.mp z with z | z
    · exact Nat.ne_of_lt hb0 z
    · have z := List.mem_singleton.mp z
      rw [hz1] at z
      exact Nat.ne_of_lt (Nat.lt_succ_of_lt hb0) z
  · rcases r with e | f
    · exact hr
    rcases f with _ | _ | _ | v
    any_goals exact hr.elim
    obtain ⟨rfl, h', tk, ks, rfl, R', hm', hl', hk'⟩ := hr
    repeat (any_goals (first | assumption | wp_step))
    exact h _ _ _ R' hm' hl' hk'
end
end SG
namespace SG
open PySem PySem.Spec PyProof.Rows L2
section
variable {P : Program} {w : World} {A : Around} {E : Value → Shared → Prop} {s : Shared} {a : Addr} {ks : List Key}
theorem ents_vals : ∀ {l : List (Int × Value)} {ks : List Key}, Paired (Ent P w) l ks → Paired (fun v k => (mixKind P w).is k v = true) (l.map (·.2)) ks
  | _, _, .nil => .nil
  | _, _, .cons r t => .cons r.2 (ents_vals t)
/-- sorted(set), by whatever sorts a list of its members -/
theorem sortedBy {Good : List Key → Array Value → Prop} {Q : Value → Shared → Prop} (R : SetG P w s.heap a ks) (hh : A.handled = none) (h64 : ks.length < 64)
    (sorts : ∀ (A : Around) (E : Value → Shared → Prop) (vs : List Value) (kl : List Key) (s1 : Shared) (b : Addr) (Pd : Fin → Shared → Prop), Paired (fun v k => (mixKind P w).is k v = true) vs kl → kl.Perm ks → s1.heap.get? b = some (seqObj "list" vs.toArray 0) →
      (∀ out, Good ks out → Pd (.done (.ret .none)) { s1 with heap := sortedHeap s1.heap b vs out }) → wpAny (model P w) A (Builtin.«list.sort» ⟨[.ref b], []⟩) Pd E s1)
    (hQ : ∀ s' p out c, (∀ b o, s.heap.get? b = some o → s'.heap.get? b = some o) → s'.gens = s.gens → s'.os = s.os → s.heap.objs.size ≤ p → s'.heap.get? p = some (seqObj "list" out c) → Good ks out → Q (.ref p) s') :
    wpAny (model P w) A (call (.builtin "sorted") [.ref a]) Q E s := by
  obtain ⟨o, es, ep, t, ho, hex, hd, hE, nd, hb, hf, hs⟩ := R
  have hlen : es.size = ks.length := by have := Paired.length hE; simpa using this
  refine Calls.call_function_entry kind_sorted plain_sorted entry_sorted (args_sorted1 _) ?_
  unfold Builtin.«sorted»
  refine wpAny_bind (m := checkCount "sorted" 1 1 _) (wpAny_pure (wpAny_bind (collect_set (A := A.in1) hh ⟨o, ho, hex.1, hd⟩ hf hb hs.1 hs.2 fun s1 vs kp hz g1 o1 pm => ?_)))
  have hP := ents_vals hE
  obtain ⟨kl, p2, hV⟩ := pr_perm pm.symm hP
  have hvl : vs.length ≤ 64 := by
    have e1 := Paired.length hV
    have e2 := p2.length_eq
    omega
  refine wpAny_bind (wpAny_newList ?_ (Nat.le_trans hvl (by decide)))
  have hoL : (s1.heap.push (seqObj "list" vs.toArray 0)).get? s1.heap.objs.size = some (seqObj "list" vs.toArray 0) := Heap.get?_push_size _ rfl
  refine wpAny_bind (wpAny_holding (wpAny_call_entry slot_list_sort ⟨_, hoL, rfl⟩ entry_list_sort (sorts _ _ vs kl _ _ _ hV p2.symm hoL fun out g => ⟨_, rfl, ?_⟩) (args_list_sort _)))
  obtain ⟨c, hc⟩ := sortedHeap_at (vs := vs) (out := out) hoL
  refine wpAny_pure ⟨_, rfl, hQ _ s1.heap.objs.size out c (fun b u e => ?_) g1 o1 hz hc g⟩
  have hlt := Heap.lt_size (kp b u e)
  refine Eq.trans (sortedHeap_old (Nat.ne_of_lt hlt) ?_) (Heap.get?_push_of_some _ (kp b u e))
  rw [size_push']
  exact Nat.lt_succ_of_lt hlt
/-- a strictly rising row of texts with the members ks -/
def GoodS (ks : List Key) (out : Array Value) : Prop := ∃ ys : List Str, StrsAre out.toList ys ∧ sortedS ys = true ∧ (ys.map Sum.inr : List Key).Perm ks
def GoodI (ks : List Key) (out : Array Value) : Prop := ∃ ys : List Int, IntsAre out.toList ys ∧ ys.Pairwise (· ≤ ·) ∧ (ys.map Sum.inl : List Key).Perm ks
theorem pr_strs : ∀ {vs : List Value} {xs : List Str}, Paired (fun v k => (mixKind P w).is k v = true) vs (xs.map Sum.inr) → StrsAre vs xs
  | [], [], _ => .nil
  | _ :: _, x :: xs, .cons r t => by
    rcases keyIs_shape (show keyIs (Sum.inr x) _ = true from r) with ⟨_, _, e, _⟩ | ⟨y, u, e, e'⟩
    · cases e
    · cases e; subst e'
      exact .cons _ u (pr_strs t)
theorem pr_ints : ∀ {vs : List Value} {xs : List Int}, Paired (fun v k => (mixKind P w).is k v = true) vs (xs.map Sum.inl) → IntsAre vs xs
  | [], [], _ => .nil
  | _ :: _, x :: xs, .cons r t => by
    rcases keyIs_shape (show keyIs (Sum.inl x) _ = true from r) with ⟨y, u, e, e'⟩ | ⟨_, _, e, _⟩
    · cases e; subst e'
      exact .cons _ u (pr_ints t)
    · cases e
theorem all_inr : ∀ (kl : List Key), (∀ k ∈ kl, ∃ x, k = Sum.inr x) → ∃ xs : List Str, kl = xs.map Sum.inr
  | [], _ => ⟨[], rfl⟩
  | k :: r, h => by
    obtain ⟨x, rfl⟩ := h k List.mem_cons_self
    obtain ⟨xs, rfl⟩ := all_inr r fun y hy => h y (List.mem_cons_of_mem _ hy)
    exact ⟨x :: xs, rfl⟩
theorem all_inl : ∀ (kl : List Key), (∀ k ∈ kl, ∃ x, k = Sum.inl x) → ∃ xs : List Int, kl = xs.map Sum.inl
  | [], _ => ⟨[], rfl⟩
  | k :: r, h => by
    obtain ⟨x, rfl⟩ := h k List.mem_cons_self
    obtain ⟨xs, rfl⟩ := all_inl r fun y hy => h y (List.mem_cons_of_mem _ hy)
    exact ⟨x :: xs, rfl⟩
theorem sortsS (hk : ∀ k ∈ ks, ∃ x, k = Sum.inr x) (h64 : ks.length < 64) (A : Around) (E : Value → Shared → Prop) (vs : List Value) (kl : List Key) (s1 : Shared) (b : Addr) (Pd : Fin → Shared → Prop) (hV : Paired (fun v k => (mixKind P w).is k v = true) vs kl) (p : kl.Perm ks)
    (hb : s1.heap.get? b = some (seqObj "list" vs.toArray 0)) (fin : ∀ out, GoodS ks out → Pd (.done (.ret .none)) { s1 with heap := sortedHeap s1.heap b vs out }) : wpAny (model P w) A (Builtin.«list.sort» ⟨[.ref b], []⟩) Pd E s1 := by
  obtain ⟨xs, rfl⟩ := all_inr kl fun k hm => hk k (p.mem_iff.mp hm)
  have hS := pr_strs hV
  have hl : vs.length < 64 := by rw [Paired.length hV, p.length_eq]; exact h64
  refine list_sort_treeK strKind_oneLt hb hS.keysOf (fun v₁ v₂ rest e => keyKind_strs (by rw [← e]; exact hS)) hl fun st' q1 q2 => ?_
  obtain ⟨ys, h1, h2, h3⟩ := sorted_out_str hS q1 q2
  exact fin _ ⟨ys, h1, h3, (h2.map Sum.inr).trans p⟩
theorem sortsI (hk : ∀ k ∈ ks, ∃ x, k = Sum.inl x) (h64 : ks.length < 64) (A : Around) (E : Value → Shared → Prop) (vs : List Value) (kl : List Key) (s1 : Shared) (b : Addr) (Pd : Fin → Shared → Prop) (hV : Paired (fun v k => (mixKind P w).is k v = true) vs kl) (p : kl.Perm ks)
    (hb : s1.heap.get? b = some (seqObj "list" vs.toArray 0)) (fin : ∀ out, GoodI ks out → Pd (.done (.ret .none)) { s1 with heap := sortedHeap s1.heap b vs out }) : wpAny (model P w) A (Builtin.«list.sort» ⟨[.ref b], []⟩) Pd E s1 := by
  obtain ⟨xs, rfl⟩ := all_inl kl fun k hm => hk k (p.mem_iff.mp hm)
  have hl : vs.length < 64 := by rw [Paired.length hV, p.length_eq]; exact h64
  exact list_sort_tree hb (pr_ints hV) hl fun out ys h1 h2 h3 => fin _ ⟨ys, h1, h3, (h2.map Sum.inl).trans p⟩
end
/-! ### as rules -/
/-- the set at a, its members ks -/
def SetO (P : Program) (w : World) (a : Addr) (ks : List Key) : HO := .ext fun h => SetG P w h a ks
section
variable {X : Cx}
theorem setO_at {pins : List (Addr × Obj)} {σ : L2.St} {H : Hp} {s : Shared} {a : Addr} {ks : List Key} (I : Inv X pins σ H s) (h : H a = some (SetO X.prog X.w a ks)) : SetG X.prog X.w s.heap a ks := (I.hok a _ h).1
theorem vals_keys : ∀ {xs : List Key} {us : List Value}, Vals (xs.map kV) us → Paired (fun v k => (mixKind X.prog X.w).is k v = true) us xs
  | [], _, .nil => .nil
  | k :: xs, _, .cons r t => .cons (by
    cases k with
    | inl i => obtain ⟨t, rfl⟩ := r; exact keyIs_int i t
    | inr x => obtain ⟨t, rfl⟩ := r; exact keyIs_str x t) (vals_keys t)
def rSetL (P : Program) (w : World) (K : PySem.W.Frag) : List V → Hp → VK → Prop := fun vs H Q => ∃ (l : Addr) (xs : List Key), vs = [.ref l] ∧ SqL K H l (xs.map kV) ∧ xs.length < 64 ∧
  ∀ p ks, H p = none → ks.Nodup → (∀ k, k ∈ ks ↔ k ∈ xs) → ks.length ≤ xs.length → Q (.ref p) (upd H p (SetO P w p ks))
theorem cr_setL (hc : X.calm = true) : CallR X (.type "set") (rSetL X.prog X.w X.K) := by
  intro pins s σ H vs us Q I r h
  obtain ⟨l, xs, rfl, hl, h64, q⟩ := h
  obtain ⟨its, rv, pl, _⟩ := I.list hl
  rw [Vals.ref1 r]
  refine call_setG (P := X.prog) (w := X.w) (I.ok.hd hc) pl.isList (vals_keys rv) (Nat.lt_of_le_of_lt (Nat.succ_le_of_lt h64) (by decide)) fun h' tk ks R hm hl kp => ?_
  have hn : H s.heap.objs.size = none := I.hok.fresh (Nat.le_refl _)
  have nd : ks.Nodup := by obtain ⟨_, _, _, _, _, _, _, _, nd, _⟩ := R; exact nd
  exact ⟨.ref s.heap.objs.size, upd H s.heap.objs.size (SetO X.prog X.w s.heap.objs.size ks), I.laid (t' := tk) kp (Nat.le_refl _) ⟨R, R.ob, fun _ _ R' k => R'.at k⟩, rfl, q _ ks hn nd hm hl⟩
/-- sorted of a set of texts -/
def rSortS (P : Program) (w : World) : List V → Hp → VK → Prop := fun vs H Q => ∃ (a : Addr) (ks : List Key), vs = [.ref a] ∧ H a = some (SetO P w a ks) ∧ (∀ k ∈ ks, ∃ x, k = Sum.inr x) ∧ ks.length < 64 ∧
  ∀ (ys : List Str) (p : Addr), sortedS ys = true → (ys.map Sum.inr : List Key).Perm ks → H p = none → Q (.ref p) (upd H p (.lst (ys.map V.str)))
theorem cr_sortS (hc : X.calm = true) : CallR X (.builtin "sorted") (rSortS X.prog X.w) := by
  intro pins s σ H vs us Q I r h
  obtain ⟨a, ks, rfl, ha, hk, h64, q⟩ := h
  rw [Vals.ref1 r]
  refine sortedBy (setO_at I ha) (I.ok.hd hc) h64 (sortsS hk h64) fun s' p out c k g o hp hg ⟨ys, h1, h2, h3⟩ => ?_
  have hz : (ys.map V.str).length ≤ sizeLine := by
    have := h3.length_eq
    rw [List.length_map] at this ⊢
    exact Nat.le_trans (Nat.le_of_lt (this ▸ h64)) (by decide)
  have hn : H p = none := I.hok.fresh hp
  have J : Inv X pins σ (upd H p (.lst (ys.map V.str))) { s with heap := s'.heap, gens := s'.gens, drawn := s'.drawn, toks := s'.toks } :=
    I.call (ch := []) (Un.laid k hp hn) (I.hok.laid k hp ⟨hz, out.toList, c, vals_of_strs h1, hg⟩) (by rw [g]; exact I.bare) (fun _ z => nomatch z)
  obtain ⟨h', g', d', t', o'⟩ := s'
  obtain rfl : o' = s.os := o
  exact ⟨.ref p, _, J, rfl, q ys p h2 h3 hn⟩
/-- sorted of a set of ints -/
def rSortI (P : Program) (w : World) : List V → Hp → VK → Prop := fun vs H Q => ∃ (a : Addr) (ks : List Key), vs = [.ref a] ∧ H a = some (SetO P w a ks) ∧ (∀ k ∈ ks, ∃ x, k = Sum.inl x) ∧ ks.length < 64 ∧
  ∀ (ys : List Int) (p : Addr), ys.Pairwise (· ≤ ·) → (ys.map Sum.inl : List Key).Perm ks → H p = none → Q (.ref p) (upd H p (.lst (ys.map V.int)))
theorem cr_sortI (hc : X.calm = true) : CallR X (.builtin "sorted") (rSortI X.prog X.w) := by
  intro pins s σ H vs us Q I r h
  obtain ⟨a, ks, rfl, ha, hk, h64, q⟩ := h
  rw [Vals.ref1 r]
  refine sortedBy (setO_at I ha) (I.ok.hd hc) h64 (sortsI hk h64) fun s' p out c k g o hp hg ⟨ys, h1, h2, h3⟩ => ?_
  have hz : (ys.map V.int).length ≤ sizeLine := by
    have := h3.length_eq
    rw [List.length_map] at this ⊢
    exact Nat.le_trans (Nat.le_of_lt (this ▸ h64)) (by decide)
  have hn : H p = none := I.hok.fresh hp
  have J : Inv X pins σ (upd H p (.lst (ys.map V.int))) { s with heap := s'.heap, gens := s'.gens, drawn := s'.drawn, toks := s'.toks } :=
    I.call (ch := []) (Un.laid k hp hn) (I.hok.laid k hp ⟨hz, out.toList, c, vals_of_ints h1, hg⟩) (by rw [g]; exact I.bare) (fun _ z => nomatch z)
  obtain ⟨h', g', d', t', o'⟩ := s'
  obtain rfl : o' = s.os := o
  exact ⟨.ref p, _, J, rfl, q ys p h2 h3 hn⟩
end
end SG
/-! walks told by their own words: forJ, lcJ; enumerate(text) -/
namespace L2
open PySem PySem.Spec PyProof.Rows
abbrev ForW (J : It) (g : TG) (tb : TS) (D : Ends) (σ : St) (H : Hp) : Prop :=
    ∃ W : Nat → Nat → St → Hp → Prop, (∃ m, W 0 m σ H) ∧ ∀ i m σ H, W i m σ H → (J.stop i H ∧ D.nx σ H) ∨ (J.go i H ∧ ∃ N : St → Hp → Prop, (∀ σ' H', N σ' H' → ∃ m', m' < m ∧ W (i + 1) m' σ' H') ∧
      ∀ x H', J.yld i H x H' → g x σ H' fun σ2 H2 => tb { D with nx := N, ct := N, bk := D.nx } σ2 H2)
abbrev LcW (J : It) (g : TG) (tt : TT) (te : TE) (vs : List Nat) (σ : St) (H1 : Hp) (L : Addr) (Qd : Hp → Prop) : Prop :=
    ∃ W : Nat → Nat → Hp → Prop, (∃ m, W 0 m (upd H1 L (.lst []))) ∧ ∀ i m H, W i m H → (J.stop i H ∧ Qd H) ∨ (J.go i H ∧ ∃ Nx : Hp → Prop, (∀ H', Nx H' → ∃ m', m' < m ∧ W (i + 1) m' H') ∧
      ∀ x H', J.yld i H x H' → g x (wipe σ vs) H' fun σ2 H2 => wipe σ2 vs = wipe σ vs ∧ tt σ2 H2 fun b H3 => if b = true then te σ2 H3 fun y H4 => ∃ acc, H4 L = some (.lst acc) ∧ acc.length < sizeLine ∧ Nx (upd H4 L (.lst (acc ++ [y]))) else Nx H3)
/-- a for over n turns, by a word of the turn, the slots and the heap -/
theorem forJ {J : It} {n : Nat} {g : TG} {tb : TS} {D : Ends} {σ : St} {H : Hp} (Pv : Nat → St → Hp → Prop) (h0 : Pv 0 σ H) (hgo : ∀ i σ H, i < n → Pv i σ H → J.go i H) (hst : ∀ σ H, Pv n σ H → J.stop n H)
    (hs : ∀ i x σ H H', i < n → Pv i σ H → J.yld i H x H' → g x σ H' fun σ2 H2 => tb { D with nx := Pv (i + 1), ct := Pv (i + 1), bk := D.nx } σ2 H2) (hd : ∀ σ H, Pv n σ H → D.nx σ H) :
    ForW J g tb D σ H := by
  refine ⟨fun i m σ H => i + m = n ∧ Pv i σ H, ⟨n, Nat.zero_add n, h0⟩, fun i m σ H ⟨e, p⟩ => ?_⟩
  cases m with
  | zero =>
    have e' : i = n := by simpa using e
    subst e'
    exact .inl ⟨hst σ H p, hd σ H p⟩
  | succ m =>
    have hi : i < n := by omega
    exact .inr ⟨hgo i σ H hi p, Pv (i + 1), fun σ' H' q => ⟨m, Nat.lt_succ_self m, by omega, q⟩, fun x H' y => hs i x σ H H' hi p y⟩
/-- a comprehension over n turns -/
theorem lcJ {J : It} {n : Nat} {g : TG} {tt : TT} {te : TE} {vs : List Nat} {σ : St} {H1 : Hp} {L : Addr} {Qd : Hp → Prop} (Pv : Nat → Hp → Prop) (h0 : Pv 0 (upd H1 L (.lst []))) (hgo : ∀ i H, i < n → Pv i H → J.go i H) (hst : ∀ H, Pv n H → J.stop n H)
    (hs : ∀ i x H H', i < n → Pv i H → J.yld i H x H' → g x (wipe σ vs) H' fun σ2 H2 => wipe σ2 vs = wipe σ vs ∧ tt σ2 H2 fun b H3 => if b = true then te σ2 H3 fun y H4 => ∃ acc, H4 L = some (.lst acc) ∧ acc.length < sizeLine ∧ Pv (i + 1) (upd H4 L (.lst (acc ++ [y]))) else Pv (i + 1) H3) (hd : ∀ H, Pv n H → Qd H) :
    LcW J g tt te vs σ H1 L Qd := by
  refine ⟨fun i m H => i + m = n ∧ Pv i H, ⟨n, Nat.zero_add n, h0⟩, fun i m H ⟨e, p⟩ => ?_⟩
  cases m with
  | zero =>
    have e' : i = n := by simpa using e
    subst e'
    exact .inl ⟨hst H p, hd H p⟩
  | succ m =>
    have hi : i < n := by omega
    exact .inr ⟨hgo i H hi p, Pv (i + 1), fun H' q => ⟨m, Nat.lt_succ_self m, by omega, q⟩, fun x H' y => hs i x H H' hi p y⟩
/-! ### enumerate(text) -/
def IteS (z : Str) : It := ⟨fun i _ => i < z.cps.size, fun i H v H' => ∃ T c, v = .ref T ∧ H T = none ∧ H' = upd H T (.tup [.int (i : Nat), .str ⟨#[c]⟩]) ∧ z.cps[i]? = some c, fun i _ => i = z.cps.size⟩
theorem drawsS {P : Program} {w : World} {A : Around} (hh : A.handled = none) (it : Addr) (z : Str) (t : Tok) :
    Draws P w A it [it] z.cps.size (fun i v => ∃ c u, z.cps[i]? = some c ∧ v = .str ⟨#[c]⟩ u) (fun i h => h.IsStrIter it (strIterType z) z t i) := by
  cases ha : z.cps.all (· < 128)
  · rw [show strIterType z = "str_iterator" from by simp [strIterType, ha]]; exact Draws.strWide hh it z t
  · rw [show strIterType z = "str_ascii_iterator" from by simp [strIterType, ha]]; exact Draws.strAscii hh it z t
theorem turn_enumS {P : Program} {w : World} {K : PySem.W.Frag} {elts : List Expr} {kk : Nat} {tpos : Pos} (z : Str) (t : Tok) (e it : Addr) :
    Turn P w K (.Tuple elts kk tpos) (IteS z) [e, it] e (fun i h => (∃ old, IsEnum h e it ((i : Nat) : Int) old) ∧ h.IsStrIter it (strIterType z) z t i ∧ e ≠ it) where
  mem := List.mem_cons_self
  obj := fun i h st b hb => by
    obtain ⟨⟨old, he⟩, hit, _⟩ := st
    obtain ⟨o, ho, _, hd⟩ := hit
    rcases List.mem_cons.mp hb with y | y
    · rw [y]; exact ⟨_, he, fun v q => nomatch q⟩
    · rw [List.mem_singleton.mp y]; exact ⟨o, ho, fun v q => by rw [hd] at q; cases q⟩
  keep := fun i h h' st k => by
    obtain ⟨⟨old, he⟩, hit, ne⟩ := st
    obtain ⟨o, ho, r⟩ := hit
    exact ⟨⟨old, k e List.mem_cons_self _ he⟩, ⟨o, k it (List.mem_cons_of_mem _ List.mem_cons_self) o ho, r⟩, ne⟩
  item := by
    intro X hP hw hK hc i pins s σ H E I hf ⟨⟨old, he⟩, hit, ne⟩ hg
    subst hP hw hK
    have hh : X.A.in1.handled = none := I.ok.hd hc
    have le : e < s.heap.objs.size := Heap.lt_size he
    have li : it < s.heap.objs.size := let ⟨_, q, _⟩ := hit; Heap.lt_size q
    have nin : e ∉ [it] := fun y => ne (List.mem_singleton.mp y)
    refine wpAny_pyNext_enum_itemD (drawsS hh it z t) he hit hg ne nin fun x h' tk ⟨c, u, hx, ex⟩ ho hit' hT _ hk => ?_
    subst ex
    refine ⟨_, rfl, wpAny_letOwnedTupleGo_enum (s := { s with heap := h', toks := tk + 1 }) ho fun h2 he2 sb => ?_⟩
    let new : HO := .tup [.int (i : Nat), .str ⟨#[c]⟩]
    have hT2 := (sb.2 _ (Nat.ne_of_gt le)).trans hT
    have nw : ObjOk X.prog X.w (upd H s.heap.objs.size new) h2 s.heap.objs.size new := ⟨by show 2 ≤ sizeLine; decide, _, .cons ⟨tk, rfl⟩ (.cons ⟨u, rfl⟩ .nil), ⟨_, hT2, rfl, _, rfl⟩⟩
    have J : Inv X pins σ (upd H s.heap.objs.size new) { s with heap := h2, toks := tk + 1 } :=
      I.turnedNew (ch := [e, it]) (fun b ob hb q => (sb.2 b fun y => hb (y ▸ List.mem_cons_self)).trans (hk b ob (fun y => hb (y ▸ List.mem_cons_self)) (fun y => hb (y ▸ List.mem_cons_of_mem _ List.mem_cons_self)) q)) hf (Nat.le_refl _) nw
    refine ⟨.ref s.heap.objs.size, _, J, rfl, ⟨_, c, rfl, I.hok.fresh (Nat.le_refl _), rfl, hx⟩, ⟨⟨.str ⟨#[c]⟩ u, ?_⟩, ?_, ne⟩, fun b hb => ?_⟩
    · have := he2
      rwa [show ((i + 1 : Nat) : Int) = (i : Int) + 1 from by omega]
    · obtain ⟨o, q, r⟩ := hit'
      exact ⟨o, (sb.2 it (Ne.symm ne)).trans q, r⟩
    · have lb : b < s.heap.objs.size := by
        rcases List.mem_cons.mp hb with y | y
        · exact y ▸ le
        · exact List.mem_singleton.mp y ▸ li
      rw [upd_ne (Nat.ne_of_lt lb)]
      exact (hf b hb).1
  done := by
    intro X hP hw hK hc i pins s σ H E I hf ⟨⟨old, he⟩, hit, ne⟩ hg
    subst hP hw hK
    obtain ⟨f0, f1, f2, f3, f4, f5⟩ := hf it (List.mem_cons_of_mem _ List.mem_cons_self)
    obtain rfl : i = z.cps.size := hg
    have hh : X.A.in1.handled = none := I.ok.hd hc
    exact wpAny_pyNext_enum_endD (drawsS hh it z t) he hit fun h' eb => ⟨rfl, I.turned (t' := s.toks) (fun b o hb e => eb b o hb e) f0 f1 f3 f4 f5⟩
  self := fun A i s Q E ⟨⟨_, he⟩, _⟩ h => wpAny_pyIter_enum he h
def iEnumS (ta : TA) : TI := fun σ H R => ta σ H fun vs H1 => ∃ z, vs = [.str z] ∧ R (IteS z) H1
theorem pi_enumS {X : Cx} {e : Expr} {ta : TA} {p pos tpos : Pos} {elts : List Expr} {kk : Nat} (hg : Gl X "enumerate") (hm : X.mg "enumerate" = none) (ha : PA X [e] ta) (hs : starEach [e] X.env = [(false, eval e X.env)] := by rfl) :
    PI X (.Tuple elts kk tpos) (.Call (.Name "enumerate" p) [e] [] pos) (iEnumS ta) := by
  refine ⟨fun pins s σ H R I h => Call_ (ld_blt I hg hm boot_enumerate (PyProof.Rows.callWith_type1 (thn (ha.run pos pins s σ H _ I h) fun us s1 ⟨vs, H1, I1, r1, z, ez, q⟩ => ?_) hs rfl))⟩
  subst ez
  cases r1 with
  | cons r rr =>
    cases rr
    obtain ⟨t, rfl⟩ := r
    refine call_enumerate_str fun h' hE hit _ hk => wpAny_pyIter_enum hE ?_
    refine ⟨s1.heap.objs.size + 1, [s1.heap.objs.size + 1, s1.heap.objs.size], _, _, H1, rfl, I1.kept hk, turn_enumS z t _ _, ⟨⟨.none, hE⟩, hit, Nat.succ_ne_self _⟩, fun b hb => ?_, q⟩
    have le : s1.heap.objs.size ≤ b := by
      rcases List.mem_cons.mp hb with y | y
      · rw [y]; exact Nat.le_succ _
      · rw [List.mem_singleton.mp y]; exact Nat.le_refl _
    exact I1.fpOk le (I1.hok.fresh le)
/-- over the signs of a text, numbered -/
theorem for_enumS {z : Str} {g : TG} {tb : TS} {D : Ends} {σ : St} {H : Hp} (Pv : Nat → St → Hp → Prop) (h0 : Pv 0 σ H)
    (hs : ∀ i c σ H T, z.cps[i]? = some c → Pv i σ H → H T = none → g (.ref T) σ (upd H T (.tup [.int (i : Nat), .str ⟨#[c]⟩])) fun σ2 H2 => tb { D with nx := Pv (i + 1), ct := Pv (i + 1), bk := D.nx } σ2 H2) (hd : ∀ σ H, Pv z.cps.size σ H → D.nx σ H) : ForW (IteS z) g tb D σ H :=
  forJ (J := IteS z) (n := z.cps.size) Pv h0 (fun _ _ _ h _ => h) (fun _ _ _ => rfl) (fun i x σ H H' hi p ⟨T, c, ex, hT, eH, hc⟩ => by subst ex eH; exact hs i c σ H T hc p hT) hd
theorem for_str {z : Str} {g : TG} {tb : TS} {D : Ends} {σ : St} {H : Hp} (Pv : Nat → St → Hp → Prop) (h0 : Pv 0 σ H)
    (hs : ∀ i c σ H, z.cps[i]? = some c → Pv i σ H → g (.str ⟨#[c]⟩) σ H fun σ2 H2 => tb { D with nx := Pv (i + 1), ct := Pv (i + 1), bk := D.nx } σ2 H2) (hd : ∀ σ H, Pv z.cps.size σ H → D.nx σ H) : ForW (Its z) g tb D σ H :=
  forJ (J := Its z) (n := z.cps.size) Pv h0 (fun _ _ _ h _ => h) (fun _ _ _ => Nat.le_refl _) (fun i x σ H H' hi p ⟨eH, c, hc, ex⟩ => by subst ex eH; exact hs i c σ _ hc p) hd
theorem lc_str {z : Str} {g : TG} {tt : TT} {te : TE} {vs : List Nat} {σ : St} {H1 : Hp} {L : Addr} {Qd : Hp → Prop} (Pv : Nat → Hp → Prop) (h0 : Pv 0 (upd H1 L (.lst [])))
    (hs : ∀ i c H, z.cps[i]? = some c → Pv i H → g (.str ⟨#[c]⟩) (wipe σ vs) H fun σ2 H2 => wipe σ2 vs = wipe σ vs ∧ tt σ2 H2 fun b H3 => if b = true then te σ2 H3 fun y H4 => ∃ acc, H4 L = some (.lst acc) ∧ acc.length < sizeLine ∧ Pv (i + 1) (upd H4 L (.lst (acc ++ [y]))) else Pv (i + 1) H3) (hd : ∀ H, Pv z.cps.size H → Qd H) : LcW (Its z) g tt te vs σ H1 L Qd :=
  lcJ (J := Its z) (n := z.cps.size) Pv h0 (fun _ _ h _ => h) (fun _ _ => Nat.le_refl _) (fun i x H H' hi p ⟨eH, c, hc, ex⟩ => by subst ex eH; exact hs i c _ hc p) hd
end L2
set_option linter.all false
/-! kinds of values -/
namespace L2
open PySem PySem.Spec PyProof.Rows
/-- a value that is no instance of the built-in class n -/
def IsNot (K : PySem.W.Frag) (H : Hp) (v : V) (n : String) : Prop := ∃ t, TyX K H v t ∧ PySem.W.kitOne K t (.type n) = some false
def numOk (v : V) (lo hi : Int) : Bool := match v with
  | .int i => decide (lo ≤ i) && decide (i ≤ hi)
  | _ => false
def NumV (K : PySem.W.Frag) (H : Hp) (v : V) : Prop := (∃ i, v = .int i) ∨ (∃ b, v = .bl b) ∨ IsNot K H v "int"
theorem kit_self {K : PySem.W.Frag} {n : String} {b : Bool} (h : PySem.W.kitOne K (.type n) (.type n) = some b) : b = true := by
  unfold PySem.W.kitOne at h
  rw [if_pos (by simp)] at h
  exact (Option.some.inj h).symm
theorem IsNot.int {K : PySem.W.Frag} {H : Hp} {i : Int} (h : IsNot K H (.int i) "int") : False := by
  obtain ⟨t, ty, kt⟩ := h
  cases ty with
  | base b => cases b; exact absurd (kit_self kt) Bool.false_ne_true
theorem IsNot.str {K : PySem.W.Frag} {H : Hp} {i : Str} (h : IsNot K H (.str i) "str") : False := by
  obtain ⟨t, ty, kt⟩ := h
  cases ty with
  | base b => cases b; exact absurd (kit_self kt) Bool.false_ne_true
theorem IsNot.bl {K : PySem.W.Frag} {H : Hp} {i : Bool} (h : IsNot K H (.bl i) "int") : False := by
  obtain ⟨t, ty, kt⟩ := h
  cases ty with
  | base b =>
    cases b
    have e : PySem.W.kitOne K (.type "bool") (.type "int") = some true := kit_ty (by decide +kernel)
    rw [e] at kt
    cases kt
def spNum (K : PySem.W.Frag) : Sp := fun vs H Q _ => ∃ v lo hi, vs = [v, .int lo, .int hi] ∧ NumV K H v ∧ Q (.bl (numOk v lo hi)) H
theorem boot_isi : bootBuiltins "isinstance" = some (.builtin "isinstance") := by decide +kernel
end L2
namespace L2
open PySem PySem.Spec PyProof.Rows
theorem sIx_nat {n i d : Nat} (h : i ≤ n) : HT.sIx n d (some (i : Int)) = i := by
  rw [HT.sIx_nat]
  omega
theorem cutV_take {xs : List V} {i : Nat} (h : i ≤ xs.length) : cutV xs none (some (i : Int)) = xs.take i := by
  unfold cutV
  rw [sIx_nat h]
  simp [HT.sIx]
theorem cutV_drop {xs : List V} {i : Nat} (h : i ≤ xs.length) : cutV xs (some (i : Int)) none = xs.drop i := by
  unfold cutV
  rw [sIx_nat h]
  exact List.take_of_length_le (by simp [HT.sIx])
/-- the signs of a text up to a place, from a place on -/
theorem cutS_take {z : Str} {i : Nat} (h : i ≤ z.length) : cutS z none (some (i : Int)) = ⟨(z.cps.toList.take i).toArray⟩ := by
  unfold cutS
  rw [sIx_nat h]
  simp [HT.sIx]
theorem cutS_drop {z : Str} {i : Nat} (h : i ≤ z.length) : cutS z (some (i : Int)) none = ⟨(z.cps.toList.drop i).toArray⟩ := by
  unfold cutS
  rw [sIx_nat h]
  exact congrArg (fun l : List Nat => (⟨l.toArray⟩ : Str)) (List.take_of_length_le (by simp [HT.sIx, Str.length]))
theorem Same.rd {H H' : Hp} {a : Addr} {u : HO} (e : Same H H') (h : Rd H a u) : Rd H' a u := by
  rcases h with h | ⟨o, h⟩
  · exact .inl (e _ _ h)
  · exact .inr ⟨o, e _ _ h⟩
theorem Same.tup {K : PySem.W.Frag} {H H' : Hp} {a : Addr} {xs : List V} (e : Same H H') (h : SqT K H a xs) : SqT K H' a xs := h.imp (e.rd) id
theorem Same.new {H : Hp} {p : Addr} {o : HO} (h : H p = none) : Same H (upd H p o) := fun b u e => by
  rw [upd_ne (ne_of_none e h)]
  exact e
theorem Same.mut {H H' : Hp} {p : Addr} {o : HO} (e : Same H H') (h : H p = none) : Same H (upd H' p o) := fun b u q => by
  rw [upd_ne (ne_of_none q h)]
  exact e b u q
theorem Same.ty {K : PySem.W.Frag} {H H' : Hp} {v : V} {t : Value} (e : Same H H') (h : TyX K H v t) : TyX K H' v t := by
  cases h with
  | base b =>
    cases b with
    | non => exact .base .non
    | bl x => exact .base (.bl x)
    | int i => exact .base (.int i)
    | str x => exact .base (.str x)
    | flt x => exact .base (.flt x)
    | lst q => exact .base (.lst (e _ _ q))
    | frz q => exact .base (.frz (e _ _ q))
    | tup q => exact .base (.tup (e _ _ q))
    | dK q => exact .base (.dK (e _ _ q))
    | dT q => exact .base (.dT (e _ _ q))
    | ins q c h1 h2 h3 h4 => exact .base (.ins (e _ _ q) c h1 h2 h3 h4)
  | byt b => exact .byt b
  | set q => exact .set (e _ _ q)
  | kList q c => exact .kList q c
  | kTuple q c => exact .kTuple q c
  | kDict q c => exact .kDict q c
  | fTuple q => exact .fTuple (e _ _ q)
  | fDict q => exact .fDict (e _ _ q)
theorem Same.isNot {K : PySem.W.Frag} {H H' : Hp} {v : V} {n : String} (e : Same H H') (h : IsNot K H v n) : IsNot K H' v n := let ⟨t, ty, k⟩ := h; ⟨t, e.ty ty, k⟩
theorem Same.numV {K : PySem.W.Frag} {H H' : Hp} {v : V} (e : Same H H') (h : NumV K H v) : NumV K H' v := h.imp id fun h => h.imp id e.isNot
/-- over a list, numbered -/
theorem for_enumL {K : PySem.W.Frag} {a : Addr} {xs : List V} {g : TG} {tb : TS} {D : Ends} {σ : St} {H : Hp} (Pv : Nat → St → Hp → Prop) (h0 : Pv 0 σ H) (hl : ∀ i σ H, i ≤ xs.length → Pv i σ H → SqL K H a xs)
    (hs : ∀ i x σ H T, xs[i]? = some x → Pv i σ H → H T = none → g (.ref T) σ (upd H T (.tup [.int (i : Nat), x])) fun σ2 H2 => tb { D with nx := Pv (i + 1), ct := Pv (i + 1), bk := D.nx } σ2 H2) (hd : ∀ σ H, Pv xs.length σ H → D.nx σ H) : ForW (Ite K a) g tb D σ H :=
  forJ (J := Ite K a) (n := xs.length) Pv h0 (fun i σ H hi p => ⟨xs, xs[i], hl i σ H (Nat.le_of_lt hi) p, List.getElem?_eq_getElem hi⟩) (fun σ H p => ⟨xs, hl _ σ H (Nat.le_refl _) p, Nat.le_refl _⟩)
    (fun i v σ H H' hi p ⟨T, x, ev, hT, eH, hx⟩ => by subst ev eH; exact hs i x σ H T (hx xs (hl i σ H (Nat.le_of_lt hi) p)) p hT) hd
end L2
namespace L2
open PySem PySem.Spec PyProof.Rows
/-- numbers from 1 to 9, each once -/
def GoodNums (xs : List V) : Prop := ∀ i x, xs[i]? = some x → numOk x 1 9 = true ∧ inV x (xs.take i) = false
theorem numOk_int {x : V} {lo hi : Int} (h : numOk x lo hi = true) : ∃ i, x = .int i ∧ lo ≤ i ∧ i ≤ hi := by
  cases x with
  | int i => simp [numOk] at h; exact ⟨i, rfl, h.1, h.2⟩
  | _ => exact absurd h Bool.false_ne_true
/-- Takings' own look at a hand's numbers; cls: NoRule -/
def spGoodNums (K : PySem.W.Frag) (cls : Value) : Sp := fun vs H Q E => ∃ p v, vs = [p, v] ∧ ((IsNot K H v "list" ∧ E cls none H) ∨
  ∃ a xs, v = .ref a ∧ H a = some (.lst xs) ∧ xs.length ≤ 1000 ∧ (∀ x ∈ xs, NumV K H x) ∧
    (GoodNums xs → ∀ H' l, Same H H' → H l = none → H' l = some (.lst xs) → Q (.ref l) H') ∧ (¬ GoodNums xs → ∀ H', Same H H' → E cls none H'))
end L2
namespace L2
open PySem PySem.Spec PyProof.Rows
/-- what may be handed in as a hand's numbers: a list of such items, or none -/
def NArg (K : PySem.W.Frag) (H : Hp) (v : V) : Option (List V) → Prop
  | none => IsNot K H v "list"
  | some xs => ∃ a, v = .ref a ∧ H a = some (.lst xs) ∧ xs.length ≤ 1000 ∧ ∀ x ∈ xs, NumV K H x
def GoodN : Option (List V) → Prop
  | none => False
  | some xs => GoodNums xs
theorem Same.nArg {K : PySem.W.Frag} {H H' : Hp} {v : V} (e : Same H H') : ∀ {o : Option (List V)}, NArg K H v o → NArg K H' v o
  | none, h => e.isNot h
  | some _, ⟨a, ev, ha, hl, hn⟩ => ⟨a, ev, e _ _ ha, hl, fun x hx => e.numV (hn x hx)⟩
/-- good_numbers, as a caller sees it -/
theorem gn_use {K : PySem.W.Frag} {H : Hp} {cls : Value} {p v : V} {Q : VK} {E : XK} {o : Option (List V)} (hv : NArg K H v o) (kQ : ∀ xs, o = some xs → GoodNums xs → ∀ H' l, Same H H' → H l = none → H' l = some (.lst xs) → Q (.ref l) H') (kE : ¬ GoodN o → ∀ H', Same H H' → E cls none H') :
    spGoodNums K cls [p, v] H Q E := by
  cases o with
  | none => exact ⟨p, v, rfl, .inl ⟨hv, kE id H (Same.refl H)⟩⟩
  | some xs =>
    obtain ⟨a, ev, ha, hl, hn⟩ := hv
    exact ⟨p, v, rfl, .inr ⟨a, xs, ev, ha, hl, hn, kQ xs rfl, kE⟩⟩
/-- a rule of takings stands at p -/
def TakAt (C : Addr) (H : Hp) (p : Addr) (xs ys : List V) : Prop := ∃ dx t l m, H p = some (.ins C dx [("takings", .ref t)]) ∧ H t = some (.dK [(Sum.inr "up", .ref l), (Sum.inr "down", .ref m)]) ∧ H l = some (.lst xs) ∧ H m = some (.lst ys)
theorem TakAt.same {C : Addr} {H H' : Hp} {p : Addr} {xs ys : List V} (h : TakAt C H p xs ys) (e : Same H H') : TakAt C H' p xs ys := let ⟨dx, t, l, m, h1, h2, h3, h4⟩ := h; ⟨dx, t, l, m, e _ _ h1, e _ _ h2, e _ _ h3, e _ _ h4⟩
/-- made anew, behind the heap H -/
def TakNew (C : Addr) (H H' : Hp) (p : Addr) (xs ys : List V) : Prop := ∃ dx t l m, H t = none ∧ H l = none ∧ H m = none ∧ H' p = some (.ins C dx [("takings", .ref t)]) ∧ H' t = some (.dK [(Sum.inr "up", .ref l), (Sum.inr "down", .ref m)]) ∧ H' l = some (.lst xs) ∧ H' m = some (.lst ys)
theorem TakNew.at {C : Addr} {H H' H2 : Hp} {p : Addr} {xs ys : List V} (h : TakNew C H H' p xs ys) (k : ∀ b o, H' b = some o → (b = p ∨ H b = none) → H2 b = some o) : TakAt C H2 p xs ys :=
  let ⟨dx, t, l, m, t0, l0, m0, h1, h2, h3, h4⟩ := h; ⟨dx, t, l, m, k _ _ h1 (.inl rfl), k _ _ h2 (.inr t0), k _ _ h3 (.inr l0), k _ _ h4 (.inr m0)⟩
/-- all but what stands at p is as it was -/
def SameBut (p : Addr) (H H' : Hp) : Prop := ∀ b o, H b = some o → b ≠ p → H' b = some o
def spTakInit (K : PySem.W.Frag) (C : Addr) (cls : Value) : Sp := fun vs H Q E => ∃ p dx u d o1 o2, vs = [.ref p, u, d] ∧ H p = some (.ins C dx []) ∧ NArg K H u o1 ∧ NArg K H d o2 ∧
  (∀ xs ys, o1 = some xs → o2 = some ys → GoodNums xs → GoodNums ys → ∀ H', TakNew C H H' p xs ys → SameBut p H H' → Q .non H') ∧ (¬ (GoodN o1 ∧ GoodN o2) → ∀ H', Same H H' → E cls none H')
theorem ne_upd {H : Hp} {p q : Addr} {o : HO} (h : H p = some o) (hq : H q = none) : p ≠ q := ne_of_none h hq
end L2
namespace L2
open PySem PySem.Spec PyProof.Rows
def BoardV (K : PySem.W.Frag) (H : Hp) (v : V) : Prop := (∃ z, v = .str z ∧ z.length ≤ 1000) ∨ IsNot K H v "str"
theorem Same.boardV {K : PySem.W.Frag} {H H' : Hp} {v : V} (e : Same H H') (h : BoardV K H v) : BoardV K H' v := h.imp id e.isNot
/-- is_board's promise, of a rule that stands as O tells -/
def spIsB (K : PySem.W.Frag) (O : Hp → Addr → Prop) (good : V → Bool) : Sp := fun vs H Q _ => ∃ p v, vs = [.ref p, v] ∧ O H p ∧ BoardV K H v ∧ ∀ H', Same H H' → Q (.bl (good v)) H'
def handS (u : Bool) : Str := if u = true then "up" else "down"
/-- changed's -/
def spChg (O : Hp → Addr → Prop) (good : V → Bool) (chg : Bool → Str → List Str) : Sp := fun vs H Q _ => ∃ p z u, vs = [.ref p, .str z, .str (handS u)] ∧ O H p ∧ good (.str z) = true ∧
  ∀ H' l, Same H H' → H l = none → H' l = some (.lst ((chg u z).map V.str)) → Q (.ref l) H'
def FIGS : List Nat := ("0123456789" : Str).cps.toList
def goodT : V → Bool
  | .str z => decide (z.length ≤ 5) && z.cps.toList.all fun c => decide (c ∈ FIGS)
  | _ => false
def digit (c : Nat) : Int := (c : Int) - 48
/-- the text with another thing at one place -/
def midT (z : Str) (i : Nat) (m : Str) : Str := cutS z none (some (i : Int)) ++ m ++ cutS z (some ((i : Int) + 1)) none
def figT (k : Int) : Str := ⟨#[48 + k.toNat]⟩
def turnT (nums : List Int) (z : Str) (i : Nat) : List Str := (nums.filter fun n => decide (n ≤ digit (z.cps.toList.getD i 0))).map fun n => midT z i (figT (digit (z.cps.toList.getD i 0) - n))
def genT (nums : List Int) (z : Str) (m : Nat) : List Str := (List.range m).flatMap (turnT nums z)
theorem genT_succ (nums : List Int) (z : Str) (m : Nat) : genT nums z (m + 1) = genT nums z m ++ turnT nums z m := by
  unfold genT
  rw [List.range_succ, List.flatMap_append, List.flatMap_singleton]
theorem turnT_len (nums : List Int) (z : Str) (i : Nat) : (turnT nums z i).length ≤ nums.length := by
  unfold turnT
  rw [List.length_map]
  exact List.length_filter_le _ _
theorem genT_len (nums : List Int) (z : Str) : ∀ m, (genT nums z m).length ≤ m * nums.length
  | 0 => by simp [genT]
  | m + 1 => by
    rw [genT_succ, List.length_append, Nat.succ_mul]
    have := genT_len nums z m
    have := turnT_len nums z m
    omega
theorem fig_mem {c : Nat} (h : c ∈ FIGS) : 48 ≤ c ∧ c ≤ 57 := by
  have e : FIGS = [48, 49, 50, 51, 52, 53, 54, 55, 56, 57] := by decide +kernel
  rw [e] at h
  simp at h
  omega
theorem fig_int {c : Nat} (h : c ∈ FIGS) : PySem.intText? ⟨#[c]⟩ = some (digit c) := by
  obtain ⟨h1, h2⟩ := fig_mem h
  obtain rfl | rfl | rfl | rfl | rfl | rfl | rfl | rfl | rfl | rfl : c = 48 ∨ c = 49 ∨ c = 50 ∨ c = 51 ∨ c = 52 ∨ c = 53 ∨ c = 54 ∨ c = 55 ∨ c = 56 ∨ c = 57 := by omega
  all_goals decide +kernel
theorem fig_str {k : Int} (h0 : 0 ≤ k) (h9 : k ≤ 9) : Str.ofString (toString k) = figT k := by
  obtain rfl | rfl | rfl | rfl | rfl | rfl | rfl | rfl | rfl | rfl : k = 0 ∨ k = 1 ∨ k = 2 ∨ k = 3 ∨ k = 4 ∨ k = 5 ∨ k = 6 ∨ k = 7 ∨ k = 8 ∨ k = 9 := by omega
  all_goals decide +kernel
end L2
namespace L2
open PySem PySem.Spec PyProof.Rows
theorem cps_at {z : Str} {i c : Nat} (h : z.cps[i]? = some c) : z.cps.toList[i]? = some c := by rw [Array.getElem?_toList]; exact h
theorem take_snoc {α : Type} {l : List α} {i : Nat} {x : α} (h : l[i]? = some x) : l.take (i + 1) = l.take i ++ [x] := by rw [List.take_add_one, h]; rfl
theorem cps_take (z : Str) : z.cps.toList.take z.cps.size = z.cps.toList := by rw [← Array.length_toList, List.take_length]
theorem cps_len (z : Str) : z.cps.toList.length = z.length := by simp [Str.length]
theorem all_map_id {α : Type} (p : α → Bool) (l : List α) : (l.map p).all id = l.all p := by rw [List.all_map]; rfl
end L2
namespace L2
open PySem PySem.Spec PyProof.Rows
theorem goodT_str {z : Str} (h : goodT (.str z) = true) : z.length ≤ 5 ∧ ∀ (i c : Nat), z.cps[i]? = some c → c ∈ FIGS := by
  have h' : (decide (z.length ≤ 5) && z.cps.toList.all fun c => decide (c ∈ FIGS)) = true := h
  rw [Bool.and_eq_true, List.all_eq_true] at h'
  exact ⟨of_decide_eq_true h'.1, fun i c hc => of_decide_eq_true (h'.2 c (List.mem_of_getElem? (cps_at hc)))⟩
theorem ints_at {ns : List Int} {i : Nat} {v : V} (h : (ns.map V.int)[i]? = some v) : ∃ n, ns[i]? = some n ∧ v = .int n := by
  rw [List.getElem?_map] at h
  cases e : ns[i]? with
  | none => rw [e] at h; cases h
  | some n => rw [e] at h; exact ⟨n, rfl, (Option.some.inj h).symm⟩
end L2
namespace L2
open PySem PySem.Spec PyProof.Rows
theorem str_len_app (a b : Str) : (a ++ b).length = a.length + b.length := by
  show (a.cps ++ b.cps).size = _
  rw [Array.size_append]; rfl
theorem figT_len (k : Int) : (figT k).length = 1 := rfl
end L2
namespace L2
open PySem PySem.Spec PyProof.Rows
def HandV (K : PySem.W.Frag) (H : Hp) (v : V) : Prop := (∃ z, v = .str z) ∨ IsNot K H v "str"
theorem Same.handV {K : PySem.W.Frag} {H H' : Hp} {v : V} (e : Same H H') (h : HandV K H v) : HandV K H' v := h.imp id e.isNot
/-- ys: the texts of xs, each once, in order -/
def SortedOf (xs ys : List Str) : Prop := sortedS ys = true ∧ ys.Nodup ∧ ∀ t, t ∈ ys ↔ t ∈ xs
/-- moves' promise -/
def spMoves (K : PySem.W.Frag) (O : Hp → Addr → Prop) (good : V → Bool) (chg : Bool → Str → List Str) (cB cH : Value) : Sp := fun vs H Q E => ∃ p v h, vs = [.ref p, v, h] ∧ O H p ∧ BoardV K H v ∧ HandV K H h ∧
  (good v = false → ∀ H', Same H H' → E cB none H') ∧ (good v = true → (∀ u, h ≠ .str (handS u)) → ∀ H', Same H H' → E cH none H') ∧
  (∀ z u, v = .str z → good v = true → h = .str (handS u) → ∀ H' l ys, Same H H' → H l = none → SortedOf (chg u z) ys → H' l = some (.lst (ys.map V.str)) → Q (.ref l) H')
/-- a turned rule stands at p, what it turns stands as O tells -/
def TurAt (C : Addr) (O : Hp → Addr → Prop) (H : Hp) (p : Addr) : Prop := ∃ dx q, H p = some (.ins C dx [("inner", .ref q)]) ∧ O H q
def spTurInit (K : PySem.W.Frag) (C CR : Addr) (cls : Value) : Sp := fun vs H Q E => ∃ p dx v t b, vs = [.ref p, v] ∧ H p = some (.ins C dx []) ∧ TyX K H v t ∧ PySem.W.kitOne K t (.ref CR) = some b ∧
  (b = true → Q .non (upd H p (.ins C dx [("inner", v)]))) ∧ (b = false → E cls none H)
theorem inV_hands (z : Str) : inV (.str z) [.str "up", .str "down"] = true ↔ ∃ u, z = handS u := by
  simp only [inV, List.any_cons, List.any_nil, Bool.or_false, Bool.or_eq_true]
  constructor
  · rintro (h | h)
    · exact ⟨true, (beq_iff_eq.mp (show (("up" : Str) == z) = true from h)).symm⟩
    · exact ⟨false, (beq_iff_eq.mp (show (("down" : Str) == z) = true from h)).symm⟩
  · rintro ⟨u, rfl⟩
    cases u
    · exact .inr (beq_iff_eq.mpr rfl)
    · exact .inl (beq_iff_eq.mpr rfl)
theorem inr_map (xs : List Str) : (xs.map (Sum.inr : Str → Key)).map kV = xs.map V.str := by rw [List.map_map]; rfl
theorem sortedOf_of {xs ys : List Str} {ks : List Key} (hs : sortedS ys = true) (hp : (ys.map Sum.inr : List Key).Perm ks) (nd : ks.Nodup) (hm : ∀ k, k ∈ ks ↔ k ∈ xs.map (Sum.inr : Str → Key)) : SortedOf xs ys := by
  have inj : ∀ {l : List Str} {t : Str}, (Sum.inr t : Key) ∈ l.map Sum.inr ↔ t ∈ l := fun {l t} => by
    rw [List.mem_map]
    exact ⟨fun ⟨x, hx, e⟩ => by cases e; exact hx, fun h => ⟨t, h, rfl⟩⟩
  refine ⟨hs, ?_, fun t => ?_⟩
  · exact List.Pairwise.of_map (Sum.inr : Str → Key) (fun a b h e => h (e ▸ rfl)) (hp.nodup_iff.mpr nd)
  · rw [← inj (l := ys), hp.mem_iff, hm, inj]
end L2
namespace L2
open PySem PySem.Spec PyProof.Rows
/-- the laws' own draws: a list of one number, moved on -/
structure LawNext (vs : List V) (H : Hp) (Q : VK) (E : XK) : Prop where
  h : ∃ (a : Addr) (s m : Int), vs = [.ref a, .int m] ∧ H a = some (.lst [.int s]) ∧ 0 ≤ s ∧ s < 2147483648 ∧ 1 ≤ m ∧ ∀ s' r, 0 ≤ s' → s' < 2147483648 → 0 ≤ r → r < m → Q (.int r) (upd H a (.lst [.int s']))
def spLawNext : Sp := LawNext
def spLawCell (K : PySem.W.Frag) : Sp := fun vs H Q _ => ∃ (a : Addr) (k : Int) (ns : List Int), vs = [.ref a, .int k] ∧ SqL K H a (ns.map V.int) ∧ 0 ≤ k ∧ ns.length ≤ 63 ∧ Q (.int (ns.getD k.toNat 0)) H
def spLawState : Sp := fun vs H Q _ => ∃ (c k : Int), vs = [.int c, .int k] ∧ 0 ≤ k ∧ k ≤ 63 ∧ ∀ s l, 0 ≤ s → s < 2147483648 → H l = none → Q (.ref l) (upd H l (.lst [.int s]))
/-- an exception that was caught, as the laws tell it -/
def spLawTold (K : PySem.W.Frag) (O : Hp → Addr → Prop) (good : V → Bool) (chg : Bool → Str → List Str) : Sp := fun vs H Q _ => ∃ p v h, vs = [.ref p, v, h] ∧ O H p ∧ BoardV K H v ∧ HandV K H h ∧
  (good v = false → ∀ H', Same H H' → Q (.str "NoBoard") H') ∧ (good v = true → (∀ u, h ≠ .str (handS u)) → ∀ H', Same H H' → Q (.str "NoHand") H') ∧
  (∀ z u, v = .str z → good v = true → h = .str (handS u) → ∀ H' l ys, Same H H' → H l = none → SortedOf (chg u z) ys → H' l = some (.lst (ys.map V.str)) → Q (.ref l) H')
end L2
namespace L2
open PySem PySem.Spec PyProof.Rows
/-- numbers from 1 to 9, rising -/
def Rising9 (ns : List Int) : Prop := ns.Pairwise (· < ·) ∧ ∀ n ∈ ns, 1 ≤ n ∧ n ≤ 9
def spLawNumbers : Sp := fun vs H Q _ => ∃ c : Int, vs = [.int c] ∧ ∀ ns H' l, Rising9 ns → ns.length ≤ 9 → Same H H' → H l = none → H' l = some (.lst (ns.map V.int)) → Q (.ref l) H'
/-- the law's own moves of takings -/
def spLawMovesT (K : PySem.W.Frag) : Sp := fun vs H Q _ => ∃ (a : Addr) (z : Str) (ns : List Int), vs = [.ref a, .str z] ∧ SqL K H a (ns.map V.int) ∧ ns.length ≤ 9 ∧ (∀ n ∈ ns, 1 ≤ n) ∧ goodT (.str z) = true ∧
  ∀ H' l ys, Same H H' → H l = none → SortedOf (genT ns z z.length) ys → H' l = some (.lst (ys.map V.str)) → Q (.ref l) H'
theorem mem_put {kvs : List (Key × V)} {k j : Key} {v : V} : j ∈ (putK kvs k v).map (·.1) ↔ j = k ∨ j ∈ kvs.map (·.1) := by
  have h : ∀ (l : List (Key × V)) (j : Key), j ∈ l.map (·.1) ↔ (valV l j).isSome = true := fun l j => by
    rw [← valV_any, List.any_eq_true]
    constructor
    · intro h
      obtain ⟨p, hp, e⟩ := List.mem_map.mp h
      exact ⟨p, hp, decide_eq_true e⟩
    · rintro ⟨p, hp, e⟩
      exact List.mem_map.mpr ⟨p, hp, of_decide_eq_true e⟩
  rw [h, h, valV_put]
  by_cases e : j = k
  · simp [e]
  · simp [e]
theorem nd_put {kvs : List (Key × V)} (k : Key) (v : V) (nd : (kvs.map (·.1)).Nodup) : ((putK kvs k v).map (·.1)).Nodup := by
  cases e : valV kvs k with
  | none => exact nd_putK v nd e
  | some x =>
    have : (putK kvs k v).map (·.1) = kvs.map (·.1) := by
      unfold putK
      have ha : (kvs.any fun kv => decide (kv.1 = k)) = true := by rw [valV_any, e]; rfl
      rw [if_pos ha, List.map_map]
      apply List.map_congr_left
      intro p _
      by_cases h : p.1 = k <;> simp [h]
    rw [this]
    exact nd
theorem keys_perm {α : Type} {l m : List α} (h1 : l.Nodup) (h2 : m.Nodup) (h : ∀ x, x ∈ l ↔ x ∈ m) : l.Perm m := (List.perm_ext_iff_of_nodup h1 h2).mpr h
end L2
namespace L2
open PySem PySem.Spec PyProof.Rows
theorem fig_occ {c : Nat} (h : c ∈ FIGS) : Builtin.Str.occurrences ("0123456789" : Str) ⟨#[c]⟩ 0 ("0123456789" : Str).length 1 = [c - 48] := by
  obtain ⟨h1, h2⟩ := fig_mem h
  obtain rfl | rfl | rfl | rfl | rfl | rfl | rfl | rfl | rfl | rfl : c = 48 ∨ c = 49 ∨ c = 50 ∨ c = 51 ∨ c = 52 ∨ c = 53 ∨ c = 54 ∨ c = 55 ∨ c = 56 ∨ c = 57 := by omega
  all_goals decide +kernel
theorem fig_at {k : Int} (h0 : 0 ≤ k) (h9 : k ≤ 9) : atI ("0123456789" : Str).cps.toList k = some (48 + k.toNat) := by
  obtain rfl | rfl | rfl | rfl | rfl | rfl | rfl | rfl | rfl | rfl : k = 0 ∨ k = 1 ∨ k = 2 ∨ k = 3 ∨ k = 4 ∨ k = 5 ∨ k = 6 ∨ k = 7 ∨ k = 8 ∨ k = 9 := by omega
  all_goals decide +kernel
/-- a dict whose keys are just the texts of xs -/
def KeysOf (kvs : List (Key × V)) (xs : List Str) : Prop := (kvs.map (·.1)).Nodup ∧ ∀ k, k ∈ kvs.map (·.1) ↔ ∃ t ∈ xs, k = Sum.inr t
theorem KeysOf.nil : KeysOf [] [] := ⟨List.nodup_nil, fun k => by simp⟩
theorem KeysOf.put {kvs : List (Key × V)} {xs : List Str} (h : KeysOf kvs xs) (t : Str) (v : V) : KeysOf (putK kvs (Sum.inr t) v) (xs ++ [t]) := by
  refine ⟨nd_put _ _ h.1, fun k => ?_⟩
  rw [mem_put, h.2]
  constructor
  · rintro (e | ⟨x, hx, e⟩)
    · exact ⟨t, by simp, e⟩
    · exact ⟨x, by simp [hx], e⟩
  · rintro ⟨x, hx, e⟩
    rcases List.mem_append.mp hx with h | h
    · exact .inr ⟨x, h, e⟩
    · rw [List.mem_singleton.mp h] at e
      exact .inl e
theorem KeysOf.list {kvs : List (Key × V)} {xs : List Str} (h : KeysOf kvs xs) : ∃ ts : List Str, (kvs.map fun kv => kV kv.1) = ts.map V.str ∧ ts.Nodup ∧ (∀ t, t ∈ ts ↔ t ∈ xs) ∧ ts.length = kvs.length := by
  obtain ⟨ts, e⟩ := SG.all_inr (kvs.map (·.1)) fun k hk => let ⟨t, _, e⟩ := (h.2 k).mp hk; ⟨t, e⟩
  refine ⟨ts, ?_, ?_, fun t => ?_, ?_⟩
  · have : (kvs.map fun kv => kV kv.1) = (kvs.map (·.1)).map kV := by rw [List.map_map]; rfl
    rw [this, e, inr_map]
  · exact List.Pairwise.of_map (Sum.inr : Str → Key) (fun a b h e => h (e ▸ rfl)) (e ▸ h.1)
  · constructor
    · intro ht
      obtain ⟨x, hx, ex⟩ := (h.2 (Sum.inr t)).mp (e ▸ List.mem_map.mpr ⟨t, ht, rfl⟩)
      cases ex
      exact hx
    · intro ht
      have q := (h.2 (Sum.inr t)).mpr ⟨t, ht, rfl⟩
      rw [e] at q
      obtain ⟨x, hx, ex⟩ := List.mem_map.mp q
      cases ex
      exact hx
  · have := congrArg List.length e
    simpa using this.symm
theorem sortedOf_perm {ts ys xs : List Str} (hs : sortedS ys = true) (hp : ys.Perm ts) (nd : ts.Nodup) (hm : ∀ t, t ∈ ts ↔ t ∈ xs) : SortedOf xs ys := ⟨hs, hp.nodup_iff.mpr nd, fun t => (hp.mem_iff).trans (hm t)⟩
end L2
namespace L2
open PySem PySem.Spec PyProof.Rows
theorem FnOk.all {P : Program} {w : World} {K : PySem.W.Frag} {mg : Str → Option Value} {base : Heap} {CX : CXT} {k : Nat} {f : Addr} {fd : FuncData} {ps : List Str} {ι : Type} {ok : ι → Prop} {sp : ι → Sp}
    (F : ∀ i, ok i → FnOk P w K mg base CX k f fd ps (sp i)) : FnOk P w K mg base CX k f fd ps (fun vs H Q E => ∃ i, ok i ∧ sp i vs H Q E) :=
  ⟨fun vs H Q E ⟨i, h, q⟩ => (F i h).len vs H Q E q, fun A outer s H args us vs Q E hr he hb hv ⟨i, h, q⟩ => (F i h).run A outer s H args us vs Q E hr he hb hv q⟩
theorem dp_strs {K : PySem.W.Frag} {H : Hp} : ∀ ys : List Str, DpAll K H (ys.map V.str) (ys.map PyData.str)
  | [] => .nil
  | y :: ys => .cons (.str y) (dp_strs ys)
theorem dp_ints {K : PySem.W.Frag} {H : Hp} : ∀ ys : List Int, DpAll K H (ys.map V.int) (ys.map PyData.int)
  | [] => .nil
  | y :: ys => .cons (.int y) (dp_ints ys)
theorem lay_str {x : Str} (h : ∀ c ∈ x.cps.toList, c < 0x110000) : PyData.canLay0 (.str x) = true := by
  simp only [PyData.canLay0]
  show x.cps.all (· < 0x110000) = true
  rw [← Array.all_toList, List.all_eq_true]
  exact fun c hc => decide_eq_true (h c hc)
theorem lay_strs : ∀ ys : List Str, (∀ y ∈ ys, PyData.canLay0 (.str y) = true) → PyData.canLayAll0 (ys.map PyData.str) = true
  | [], _ => by simp [PyData.canLayAll0]
  | y :: ys, h => by
    simp only [List.map_cons, PyData.canLayAll0, h y List.mem_cons_self, lay_strs ys fun z hz => h z (List.mem_cons_of_mem _ hz), Bool.and_true]
theorem depth_strs : ∀ ys : List Str, PyData.depthAll (ys.map PyData.str) = 0
  | [] => by simp [PyData.depthAll]
  | y :: ys => by simp [PyData.depthAll, PyData.depth, depth_strs ys]
theorem lay_ints : ∀ ys : List Int, PyData.canLayAll0 (ys.map PyData.int) = true
  | [] => by simp [PyData.canLayAll0]
  | y :: ys => by simp [PyData.canLayAll0, PyData.canLay0, lay_ints ys]
theorem depth_ints : ∀ ys : List Int, PyData.depthAll (ys.map PyData.int) = 0
  | [] => by simp [PyData.depthAll]
  | y :: ys => by simp [PyData.depthAll, PyData.depth, depth_ints ys]
theorem shaped_strs {ys : List Str} (h : ∀ y ∈ ys, PyData.canLay0 (.str y) = true) : SeqAt.shaped (.list (ys.map PyData.str)) = true := by
  simp [SeqAt.shaped, PyData.canLay0, PyData.depth, lay_strs ys h, depth_strs]
theorem shaped_ints (ys : List Int) : SeqAt.shaped (.list (ys.map PyData.int)) = true := by
  simp [SeqAt.shaped, PyData.canLay0, PyData.depth, lay_ints ys, depth_ints]
theorem shaped_str {y : Str} (h : PyData.canLay0 (.str y) = true) : SeqAt.shaped (.str y) = true := by
  simp [SeqAt.shaped, h, PyData.depth]
theorem eqv_strs : ∀ ys : List Str, PyData.eqvAll (ys.map PyData.str) (ys.map PyData.str) = true
  | [] => by simp [PyData.eqvAll]
  | y :: ys => by simp [PyData.eqvAll, PyData.eqv, eqv_strs ys]
def leS (a b : Str) : Prop := a.cps.toList ≤ b.cps.toList
theorem risingS_all : ∀ (l : List Str) (p : Str), risingS p l = true → (∀ x ∈ l, leS p x) ∧ l.Pairwise leS
  | [], p, _ => ⟨(fun x h => by cases h), List.Pairwise.nil⟩
  | x :: r, p, h => by
    have h' : (!PySem.Spec.ltCps x.cps.toList p.cps.toList && risingS x r) = true := h
    rw [Bool.and_eq_true, PyProof.Rows.ltCps_eq] at h'
    have le : leS p x := List.not_lt.mp (by
      have q := h'.1
      intro z
      rw [decide_eq_true z] at q
      cases q)
    obtain ⟨h1, h2⟩ := risingS_all r x h'.2
    refine ⟨fun y hy => ?_, List.pairwise_cons.mpr ⟨h1, h2⟩⟩
    rcases List.mem_cons.mp hy with e | e
    · rw [e]; exact le
    · exact List.le_trans le (h1 y e)
theorem sortedS_all : ∀ l : List Str, sortedS l = true → l.Pairwise leS
  | [], _ => List.Pairwise.nil
  | x :: r, h => let ⟨h1, h2⟩ := risingS_all r x h; List.pairwise_cons.mpr ⟨h1, h2⟩
theorem str_ext {a b : Str} (h : a.cps.toList = b.cps.toList) : a = b := by
  cases a; cases b
  exact congrArg Str.mk (Array.toList_inj.mp h)
/-- two rows of the same texts, in order, each once, are one -/
theorem sortedOf_uniq {xs ys zs : List Str} (h : SortedOf xs ys) (h' : SortedOf xs zs) : ys = zs := by
  have hp : ys.Perm zs := keys_perm h.2.1 h'.2.1 fun x => (h.2.2 x).trans (h'.2.2 x).symm
  exact hp.eq_of_pairwise (le := leS) (fun a b _ _ h1 h2 => str_ext (List.le_antisymm h1 h2)) (sortedS_all _ h.1) (sortedS_all _ h'.1)
theorem cutS_mem {z : Str} {lo hi : Option Int} {c : Nat} (h : c ∈ (cutS z lo hi).cps.toList) : c ∈ z.cps.toList := by
  unfold cutS at h
  exact List.mem_of_mem_drop (List.mem_of_mem_take (by simpa using h))
theorem app_mem {a b : Str} {c : Nat} (h : c ∈ (a ++ b).cps.toList) : c ∈ a.cps.toList ∨ c ∈ b.cps.toList := by
  have e : (a ++ b).cps.toList = a.cps.toList ++ b.cps.toList := by
    show (a.cps ++ b.cps).toList = _
    simp
  rw [e] at h
  exact List.mem_append.mp h
theorem genT_lay {nums : List Int} {z : Str} {m : Nat} {t : Str} (hz : goodT (.str z) = true) (h1 : ∀ n ∈ nums, 1 ≤ n) (hm : m ≤ z.length) (ht : t ∈ genT nums z m) : PyData.canLay0 (.str t) = true := by
  obtain ⟨_, hf⟩ := goodT_str hz
  unfold genT at ht
  obtain ⟨i, hi, ht⟩ := List.mem_flatMap.mp ht
  unfold turnT at ht
  obtain ⟨n, hn, rfl⟩ := List.mem_map.mp ht
  have hn1 := h1 n ((List.mem_filter.mp hn).1)
  have hi' : i < z.cps.size := Nat.lt_of_lt_of_le (List.mem_range.mp hi) hm
  have hcz : ∀ c ∈ z.cps.toList, c < 0x110000 := fun c hc => by
    obtain ⟨j, hj⟩ := List.mem_iff_getElem?.mp hc
    have := fig_mem (hf j c (by rw [← Array.getElem?_toList]; exact hj))
    omega
  have hc := fig_mem (hf i (z.cps.toList.getD i 0) (by rw [List.getD_eq_getElem?_getD, Array.getElem?_toList, Array.getElem?_eq_getElem hi']; rfl))
  refine lay_str fun c hc' => ?_
  unfold midT at hc'
  rcases app_mem hc' with h | h
  · rcases app_mem h with h | h
    · exact hcz c (cutS_mem h)
    · have e : c = 48 + (digit (z.cps.toList.getD i 0) - n).toNat := by simpa [figT] using h
      have : digit (z.cps.toList.getD i 0) - n ≤ 9 := by unfold digit; omega
      omega
  · exact hcz c (cutS_mem h)
end L2
namespace L2
open PySem PySem.Spec PyProof.Rows
theorem goodNums_ints {ns : List Int} (nd : ns.Nodup) (h : ∀ n ∈ ns, 1 ≤ n ∧ n ≤ 9) : GoodNums (ns.map V.int) := fun i x hx => by
  obtain ⟨n, hn, rfl⟩ := ints_at hx
  obtain ⟨h1, h9⟩ := h n (List.mem_of_getElem? hn)
  refine ⟨by simp [numOk, h1, h9], ?_⟩
  rw [← List.map_take]
  cases e : inV (.int n) ((ns.take i).map V.int) with
  | false => rfl
  | true =>
    unfold inV at e
    obtain ⟨y, hy, q⟩ := List.any_eq_true.mp e
    obtain ⟨m, hm, rfl⟩ := List.mem_map.mp hy
    have em : m = n := beq_iff_eq.mp (show (m == n) = true from q)
    subst em
    obtain ⟨j, hj⟩ := List.mem_iff_getElem?.mp hm
    rw [List.getElem?_take] at hj
    split at hj
    · rename_i hji
      exact absurd (nd_ix nd hj hn) (by omega)
    · cases hj
theorem numV_ints {K : PySem.W.Frag} {H : Hp} {ns : List Int} : ∀ x ∈ ns.map V.int, NumV K H x := fun x hx => by
  obtain ⟨n, _, rfl⟩ := List.mem_map.mp hx
  exact .inl ⟨n, rfl⟩
end L2
namespace L2
open PySem PySem.Spec PyProof.Rows
theorem joinL_nil : ∀ ps : List (List Nat), (TL.joinL [] ps) = ps.flatten
  | [] => rfl
  | [p] => by simp [TL.joinL]
  | p :: q :: r => by
    show p ++ ([] ++ TL.joinL [] (q :: r)) = _
    rw [joinL_nil (q :: r)]
    simp
/-- texts glued together -/
theorem join_toList (ys : List Str) : (Txt.join ("" : Str) ys).cps.toList = (ys.map fun y => y.cps.toList).flatten := by
  have h := TL.tl_join ("" : Str) ys
  rw [← TL.join_eq] at h
  exact h.trans (joinL_nil _)
theorem join_signs (cs : List Nat) : (Txt.join ("" : Str) (cs.map fun c => (⟨#[c]⟩ : Str))).cps.toList = cs := by
  rw [join_toList, List.map_map]
  induction cs with
  | nil => rfl
  | cons c r ih => simpa using ih
end L2
namespace L2
open PySem PySem.Spec PyProof.Rows
/-- a list that holds the figure mill's number, over what stood before it -/
def St1 (H0 H : Hp) (a : Addr) : Prop := H0 a = none ∧ Same H0 H ∧ ∃ s : Int, H a = some (.lst [.int s]) ∧ 0 ≤ s ∧ s < 2147483648
theorem St1.mk {H0 H : Hp} {a : Addr} {s : Int} (n : H a = none) (e : Same H0 H) (z0 : 0 ≤ s) (z1 : s < 2147483648) : St1 H0 (upd H a (.lst [.int s])) a :=
  ⟨e.free n, e.mut (e.free n), s, upd_same, z0, z1⟩
theorem St1.same {H0 H H' : Hp} {a : Addr} (h : St1 H0 H a) (e : Same H H') : St1 H0 H' a := let ⟨n, e0, s, hs, z⟩ := h; ⟨n, e0.trans e, s, e _ _ hs, z⟩
theorem St1.new {H0 H : Hp} {a p : Addr} {o : HO} (h : St1 H0 H a) (n : H p = none) : St1 H0 (upd H p o) a := h.same (Same.new n)
theorem St1.mut {H0 H : Hp} {a p : Addr} {o : HO} (h : St1 H0 H a) (n : H0 p = none) (hp : p ≠ a) : St1 H0 (upd H p o) a := let ⟨n', e0, s, hs, z⟩ := h; ⟨n', e0.mut n, s, by rw [upd_ne (Ne.symm hp)]; exact hs, z⟩
theorem St1.next {H0 H : Hp} {a : Addr} {m : Int} {Q : VK} {E : XK} (h : St1 H0 H a) (hm : 1 ≤ m) (k : ∀ r H', 0 ≤ r → r < m → St1 H0 H' a → (∀ b, b ≠ a → H' b = H b) → Q (.int r) H') : spLawNext [.ref a, .int m] H Q E := by
  obtain ⟨n, e, s, hs, z0, z1⟩ := h
  exact ⟨a, s, m, rfl, hs, z0, z1, hm, fun s' r z0' z1' r0 r1 => k r _ r0 r1 ⟨n, e.mut n, s', upd_same, z0', z1'⟩ fun b hb => upd_ne hb⟩
theorem St1.away {H0 H : Hp} {a p : Addr} (h : St1 H0 H a) (n : H p = none) : p ≠ a := fun z => by
  obtain ⟨_, _, s, hs, _⟩ := h
  rw [z, hs] at n
  cases n
/-- a board as the laws draw it: it does not hang on the figure mill -/
def BV (a : Addr) (H : Hp) (v : V) : Prop := (∃ z, v = .str z ∧ z.length ≤ 1000) ∨ v = .non ∨ (∃ i, v = .int i) ∨ ∃ q xs, q ≠ a ∧ v = .ref q ∧ H q = some (.lst xs)
theorem BV.away {a : Addr} {H H' : Hp} {v : V} (h : BV a H v) (e : ∀ b, b ≠ a → H' b = H b) : BV a H' v := by
  rcases h with h | h | h | ⟨q, xs, n, rfl, hq⟩
  · exact .inl h
  · exact .inr (.inl h)
  · exact .inr (.inr (.inl h))
  · exact .inr (.inr (.inr ⟨q, xs, n, rfl, (e q n).trans hq⟩))
theorem BV.same {a : Addr} {H H' : Hp} {v : V} (h : BV a H v) (e : Same H H') : BV a H' v := by
  rcases h with h | h | h | ⟨q, xs, n, rfl, hq⟩
  · exact .inl h
  · exact .inr (.inl h)
  · exact .inr (.inr (.inl h))
  · exact .inr (.inr (.inr ⟨q, xs, n, rfl, e _ _ hq⟩))
theorem BV.board {K : PySem.W.Frag} {a : Addr} {H : Hp} {v : V} (h : BV a H v) : BoardV K H v := by
  rcases h with h | rfl | ⟨i, rfl⟩ | ⟨q, xs, n, rfl, hq⟩
  · exact .inl h
  · exact .inr ⟨_, .base .non, rfl⟩
  · exact .inr ⟨_, .base (.int i), rfl⟩
  · exact .inr ⟨_, .base (.lst hq), rfl⟩
end L2
namespace L2
open PySem PySem.Spec PyProof.Rows
/-- what the laws look for: a mark, or the sorted boards -/
def Due (good : V → Bool) (ch : Bool → Str → List Str) (H : Hp) (v h d : V) : Prop :=
  (good v = false ∧ d = .str "NoBoard") ∨ (good v = true ∧ (∀ u, h ≠ .str (handS u)) ∧ d = .str "NoHand") ∨
  ∃ z u l ys, v = .str z ∧ good v = true ∧ h = .str (handS u) ∧ d = .ref l ∧ H l = some (.lst (ys.map V.str)) ∧ SortedOf (ch u z) ys
theorem handS_inj {u u' : Bool} (h : handS u = handS u') : u = u' := by
  cases u <;> cases u' <;> first | rfl | exact absurd h (by decide)
theorem handS_str {u u' : Bool} (h : V.str (handS u) = V.str (handS u')) : u = u' := handS_inj (V.str.inj h)
theorem Due.same {good : V → Bool} {ch : Bool → Str → List Str} {H H' : Hp} {v h d : V} (D : Due good ch H v h d) (e : Same H H') : Due good ch H' v h d :=
  D.imp id fun D => D.imp id fun ⟨z, u, l, ys, a, b, c, q, hl, so⟩ => ⟨z, u, l, ys, a, b, c, q, e _ _ hl, so⟩
theorem Due.flip {good : V → Bool} {ch : Bool → Str → List Str} {H : Hp} {v d : V} {u : Bool} (D : Due good (fun u z => ch (!u) z) H v (.str (handS (!u))) d) : Due good ch H v (.str (handS u)) d := by
  rcases D with D | ⟨_, n, _⟩ | ⟨z, u', l, ys, a, b, c, q, hl, so⟩
  · exact .inl D
  · exact (n _ rfl).elim
  · have := handS_str c
    subst this
    have so' : SortedOf (ch (!(!u)) z) ys := so
    rw [Bool.not_not] at so'
    exact .inr (.inr ⟨z, u, l, ys, a, b, rfl, q, hl, so'⟩)
theorem Due.alike {K : PySem.W.Frag} {good : V → Bool} {ch : Bool → Str → List Str} {H : Hp} {v h d t : V} (lay : ∀ z u, good (.str z) = true → ∀ y ∈ ch u z, PyData.canLay0 (.str y) = true)
    (A : Due good ch H v h t) (B : Due good ch H v h d) : ∃ D E, Dp K H t D ∧ Dp K H d E ∧ SeqAt.shaped D = true ∧ SeqAt.shaped E = true ∧ PyData.eqv D E = true := by
  rcases A with ⟨g, rfl⟩ | ⟨g, n, rfl⟩ | ⟨z, u, l, ys, rfl, g, rfl, rfl, hl, so⟩
  · rcases B with ⟨_, rfl⟩ | ⟨g', _⟩ | ⟨_, _, _, _, _, g', _⟩
    · exact ⟨_, _, .str _, .str _, by decide +kernel, by decide +kernel, by decide +kernel⟩
    · rw [g] at g'; cases g'
    · rw [g] at g'; cases g'
  · rcases B with ⟨g', _⟩ | ⟨_, _, rfl⟩ | ⟨_, u, _, _, _, _, e, _⟩
    · rw [g] at g'; cases g'
    · exact ⟨_, _, .str _, .str _, by decide +kernel, by decide +kernel, by decide +kernel⟩
    · exact (n u e).elim
  · rcases B with ⟨g', _⟩ | ⟨_, n, _⟩ | ⟨z', u', l', ys', e, _, e', rfl, hl', so'⟩
    · rw [g] at g'; cases g'
    · exact (n u rfl).elim
    · cases V.str.inj e
      cases handS_str e'
      cases sortedOf_uniq so so'
      have hs : ∀ y ∈ ys, PyData.canLay0 (.str y) = true := fun y hy => lay z u g y ((so.2.2 y).mp hy)
      exact ⟨_, _, .lst (SqL.of hl) (dp_strs ys), .lst (SqL.of hl') (dp_strs ys), shaped_strs hs, shaped_strs hs, by simp [PyData.eqv, eqv_strs]⟩
theorem told_due {K : PySem.W.Frag} {O : Hp → Addr → Prop} {good : V → Bool} {ch : Bool → Str → List Str} {p : Addr} {v h : V} {H : Hp} {Q : VK} {E : XK} (hg : ∀ v, good v = true → ∃ z, v = .str z)
    (hO : O H p) (hv : BoardV K H v) (hh : HandV K H h) (k : ∀ t H', Same H H' → Due good ch H' v h t → Q t H') : spLawTold K O good ch [.ref p, v, h] H Q E :=
  ⟨p, v, h, rfl, hO, hv, hh, fun g H' e => k _ _ e (.inl ⟨g, rfl⟩), fun g n H' e => k _ _ e (.inr (.inl ⟨g, n, rfl⟩)),
    fun z u ev g eh H' l ys e _ so hl => k _ _ e (.inr (.inr ⟨z, u, l, ys, ev, g, eh, rfl, hl, so⟩))⟩
end L2
namespace L2
open PySem PySem.Spec PyProof.Rows
theorem good_ones {z : Str} (h : z.length ≤ 5) : PyData.eqv (.list (((z.cps.toList.filter fun c => !decide (c ∈ FIGS)).map fun _ => (1 : Int)).map PyData.int)) (.list []) = goodT (.str z) := by
  cases e : z.cps.toList.filter fun c => !decide (c ∈ FIGS) with
  | nil =>
    have : goodT (.str z) = true := by
      have := List.filter_eq_nil_iff.mp e
      simp only [goodT, h, decide_true, Bool.true_and, List.all_eq_true]
      intro c hc
      have := this c hc
      simpa using this
    rw [this]
    simp [PyData.eqv, PyData.eqvAll]
  | cons c r =>
    have : goodT (.str z) = false := by
      have hc : c ∈ z.cps.toList.filter fun c => !decide (c ∈ FIGS) := by rw [e]; exact List.mem_cons_self
      obtain ⟨h1, h2⟩ := List.mem_filter.mp hc
      cases hg : goodT (.str z) with
      | false => rfl
      | true =>
        simp only [goodT, Bool.and_eq_true, List.all_eq_true] at hg
        rw [hg.2 c h1] at h2
        cases h2
    rw [this]
    simp [PyData.eqv, PyData.eqvAll]
theorem hand_in {h : V} (hv : (∃ u, h = .str (handS u)) ∨ h = .str "Up" ∨ h = .non) :
    (inV h [.str "up", .str "down"] = true ∧ ∃ u, h = .str (handS u)) ∨ (inV h [.str "up", .str "down"] = false ∧ ∀ u, h ≠ .str (handS u)) := by
  rcases hv with ⟨u, rfl⟩ | rfl | rfl
  · exact .inl ⟨(inV_hands _).mpr ⟨u, rfl⟩, u, rfl⟩
  · exact .inr ⟨by decide +kernel, fun u e => by cases u <;> exact absurd (V.str.inj e) (by decide)⟩
  · exact .inr ⟨by decide +kernel, fun u e => nomatch e⟩
theorem hand_flat {h : V} (hv : (∃ u, h = .str (handS u)) ∨ h = .str "Up" ∨ h = .non) : flatV h = true := by
  rcases hv with ⟨u, rfl⟩ | rfl | rfl <;> rfl
theorem hand_is {K : PySem.W.Frag} {H : Hp} {h : V} (hv : (∃ u, h = .str (handS u)) ∨ h = .str "Up" ∨ h = .non) : HandV K H h := by
  rcases hv with ⟨u, rfl⟩ | rfl | rfl
  · exact .inl ⟨_, rfl⟩
  · exact .inl ⟨_, rfl⟩
  · exact .inr ⟨_, .base .non, rfl⟩
end L2
/-! != of two lists whose items are alike, place by place -/
namespace PySem.SeqAt
open AutoSeq1 (wpAny_loadPart')
open MeetsSeq MeetsSeq2 MeetsSeq3 SeqRoads2
section
variable {prog : Program} {w : World}
/-- the walk of «!=» over two lists as long as one another, alike at each place -/
theorem alike_walk {l b : Addr} {us ws : Array Value} {n n2 : Nat} {dd dd2 : Option Addr} {sl sl2 : Array (Option Value)} (hz : us.size = ws.size) : ∀ (m i : Nat), i + m = us.size →
    MeetsIn prog w (Builtin.«list.__eq__.loop» ⟨[.ref l, .ref b, rawInt i, rawInt 3], []⟩) (fun A R s =>
      (s.heap.get? l = some { cls := .type "list", dict := dd, data := .seq us n, slots := sl } ∧ s.heap.get? b = some { cls := .type "list", dict := dd2, data := .seq ws n2, slots := sl2 }) ∧
      (∀ j (p : j < us.size) (q : j < ws.size), EqP prog w A.in1 s us[j] ws[j] true) ∧ R (.ok (.ret (.bool false))) s)
  | 0, i, hm => fun A R s ⟨⟨hl, hb⟩, _, fin⟩ => by
    obtain ⟨hp, g, d, tk, os⟩ := s
    have q1 : us[((i : Nat) : Int).toNat]? = none := by simp; omega
    have q2 : ws[((i : Nat) : Int).toNat]? = none := by simp; omega
    wp_walk using wpAny_loadPart' hl, wpAny_loadPart' hb
    rw [q1, q2]
    wp_walk using wpAny_loadPart' hl, wpAny_loadPart' hb
    show R (.ok (.ret (.bool (us.size != ws.size)))) _
    rw [hz, bne_self_eq_false]
    exact fin
  | m + 1, i, hm => fun A R s ⟨⟨hl, hb⟩, same, fin⟩ => by
    obtain ⟨hp, g, d, tk, os⟩ := s
    have p1 : i < us.size := by omega
    have p2 : i < ws.size := by omega
    have q1 : us[((i : Nat) : Int).toNat]? = some us[i] := by simp [p1]
    have q2 : ws[((i : Nat) : Int).toNat]? = some ws[i] := by simp [p2]
    wp_walk using wpAny_loadPart' hl, wpAny_loadPart' hb
    rw [q1, q2]
    refine wpAny_bind (same i p1 p2 _ _ ?_)
    wp_walk
    rw [show ((i : Int) + 1) = ((i + 1 : Nat) : Int) by omega]
    refine ⟨plainId_quiet plain_eq_loop _, codeAny_builtin entry_eq_loop ?_⟩
    rw [Around.under_plainId plain_eq_loop _]
    exact alike_walk hz m (i + 1) (by omega) A R _ ⟨⟨hl, hb⟩, same, fin⟩
theorem alike_ne {l b : Addr} {us ws : Array Value} {n n2 : Nat} {dd dd2 : Option Addr} {sl sl2 : Array (Option Value)} (hz : us.size = ws.size) :
    MeetsIn prog w (Builtin.«list.__ne__» ⟨[.ref l, .ref b], []⟩) (fun A R s =>
      (s.heap.get? l = some { cls := .type "list", dict := dd, data := .seq us n, slots := sl } ∧ s.heap.get? b = some { cls := .type "list", dict := dd2, data := .seq ws n2, slots := sl2 }) ∧
      (∀ j (p : j < us.size) (q : j < ws.size), EqP prog w A.in1 s us[j] ws[j] true) ∧ R (.ok (.ret (.bool false))) s) := fun A R s ⟨⟨hl, hb⟩, same, fin⟩ => by
  obtain ⟨hp, g, d, tk, os⟩ := s
  have sub := AutoSeq1.sub_list_list
  have nz : ¬ (us.size != ws.size) = true := by simp [hz]
  wp_walk using wpAny_loadPart' hl, wpAny_loadPart' hb
  refine ⟨plainId_quiet plain_eq_loop _, codeAny_builtin entry_eq_loop ?_⟩
  rw [Around.under_plainId plain_eq_loop _]
  exact alike_walk hz us.size 0 (Nat.zero_add _) A R _ ⟨⟨hl, hb⟩, same, fin⟩
theorem alike_rc {A : Around} {s : Shared} {l b : Addr} {us ws : Array Value} {E Q : Value → Shared → Prop} (hl : s.heap.IsList l us) (hb : s.heap.IsList b ws) (hz : us.size = ws.size) (hu : A.units < cLine)
    (same : ∀ j (p : j < us.size) (q : j < ws.size), EqP prog w A.in1 s us[j] ws[j] true) (h : Q (.bool false) s) : wpAny (model prog w) A (richCompare .NotEq (.ref l) (.ref b)) Q E s := by
  obtain ⟨⟨_, dd, _, sl⟩, o1, rfl, n, rfl⟩ := id hl
  obtain ⟨⟨_, dd2, _, sl2⟩, o2, rfl, n2, rfl⟩ := id hb
  have t1 : s.TypeIs (.ref l) "list" := ⟨_, o1, rfl⟩
  refine wpAny_richCompare_same_room (op := .NotEq) t1 ⟨_, o2, rfl⟩ F.slot_list_ne (call_meetsIn F.slot_list_ne t1 F.entry_list_ne (F.args_list_ne_2 _ _) (alike_ne hz) ⟨⟨o1, o2⟩, same, ?_⟩) hu
  exact ⟨(fun x => nomatch x), h⟩
end
end PySem.SeqAt
namespace L2
open PySem PySem.Spec PyProof.Rows
/-- a != b, two lists of items that are equal -/
def rNeV (K : PySem.W.Frag) : R2 := fun x y H Q => ∃ n a b xs ys, n ≤ 60 ∧ x = .ref a ∧ y = .ref b ∧ SqL K H a xs ∧ SqL K H b ys ∧ Paired (EqV K H n) xs ys ∧ Q (.bl false) H
theorem op_neV {X : Cx} (hu : X.A.units + 64 < cLine) : OpR X (compareOp .NotEq) (rNeV X.K) := by
  rintro pins s σ H x y v u Q I rx ry ⟨n, a, b, xs, ys, hn, rfl, rfl, ha, hb, hp, q⟩
  cases (show v = Value.ref a from rx)
  cases (show u = Value.ref b from ry)
  obtain ⟨us, r1, p1, _⟩ := I.list ha
  obtain ⟨ws, r2, p2, _⟩ := I.list hb
  have hz : us.toArray.size = ws.toArray.size := by
    rw [List.size_toArray, List.size_toArray, ← r1.length, ← r2.length]
    exact Paired.length hp
  refine SeqAt.alike_rc p1.isList p2.isList hz (by omega) (fun j h1 h2 => ?_) ⟨.bl false, H, I, rfl, q⟩
  have k := items_run (eqV_run I n X.A.in1 (by show X.A.units + 1 + n < cLine; omega)) hp r1 r2 j (by simpa using h1) (by simpa using h2)
  simpa using k
end L2
/-! rules of swaps -/
namespace L2
open PySem PySem.Spec PyProof.Rows
abbrev Kvs := List (Key × V)
def sgn (c : Nat) : Key := Sum.inr ⟨#[c]⟩
def wtC (kvs : Kvs) (c : Nat) : Int := match valV kvs (sgn c) with
  | some (.int n) => n
  | _ => 0
def inS (kvs : Kvs) (c : Nat) : Bool := (valV kvs (sgn c)).isSome
def wt (kvs : Kvs) (z : Str) : Int := (z.cps.toList.map (wtC kvs)).sum
def allIn (kvs : Kvs) (z : Str) : Bool := z.cps.toList.all (inS kvs)
def rowOk (kvs : Kvs) (L : Nat) : V → Bool
  | .str z => decide (z.length ≤ L) && allIn kvs z
  | _ => false
/-- signs with weights, as the laws draw them -/
structure SgOk (kvs : Kvs) : Prop where
  nd : (kvs.map (·.1)).Nodup
  one : ∀ e ∈ kvs, ∃ (c : Nat) (n : Int), e = (sgn c, .int n) ∧ 33 ≤ c ∧ c ≤ 126 ∧ c ≠ 37 ∧ 0 ≤ n ∧ n ≤ 9
theorem mem_val {kvs : Kvs} {k : Key} {v : V} (h : valV kvs k = some v) : (k, v) ∈ kvs := by
  unfold valV at h
  obtain ⟨p, hp, rfl⟩ := Option.map_eq_some_iff.mp h
  have h1 := List.mem_of_find?_eq_some hp
  have h2 := List.find?_some hp
  have : p.1 = k := of_decide_eq_true h2
  rw [← this]
  exact h1
theorem entry_put {kvs : Kvs} {k : Key} {v : V} {e : Key × V} (h : e ∈ putK kvs k v) : e = (k, v) ∨ e ∈ kvs := by
  unfold putK at h
  split at h
  · obtain ⟨p, hp, q⟩ := List.mem_map.mp h
    split at q
    · rename_i hk
      rw [hk] at q
      exact .inl q.symm
    · exact .inr (q ▸ hp)
  · rcases List.mem_append.mp h with z | z
    · exact .inr z
    · exact .inl (List.mem_singleton.mp z)
theorem SgOk.nil : SgOk [] := ⟨List.nodup_nil, fun e h => nomatch h⟩
theorem SgOk.put {kvs : Kvs} {c : Nat} {n : Int} (h : SgOk kvs) (h1 : 33 ≤ c) (h2 : c ≤ 126) (h3 : c ≠ 37) (n0 : 0 ≤ n) (n9 : n ≤ 9) : SgOk (putK kvs (sgn c) (.int n)) :=
  ⟨nd_put _ _ h.nd, fun e he => (entry_put he).elim (fun q => ⟨c, n, q, h1, h2, h3, n0, n9⟩) (h.one e)⟩
theorem sgn_inj {c d : Nat} (h : sgn c = sgn d) : c = d := by
  have := Sum.inr.inj h
  have := congrArg (fun z : Str => z.cps.toList) this
  simpa using this
theorem SgOk.at {kvs : Kvs} {c : Nat} (h : SgOk kvs) (hc : inS kvs c = true) : valV kvs (sgn c) = some (.int (wtC kvs c)) ∧ 0 ≤ wtC kvs c ∧ wtC kvs c ≤ 9 ∧ 33 ≤ c ∧ c ≤ 126 ∧ c ≠ 37 := by
  obtain ⟨v, hv⟩ := Option.isSome_iff_exists.mp hc
  obtain ⟨d, n, e, h1, h2, h3, h4, h5⟩ := h.one _ (mem_val hv)
  have e1 := congrArg Prod.fst e
  have e2 : v = .int n := congrArg Prod.snd e
  cases sgn_inj e1
  subst e2
  have : wtC kvs c = n := by unfold wtC; rw [hv]
  rw [this]
  exact ⟨hv, h4, h5, h1, h2, h3⟩
theorem SgOk.has {kvs : Kvs} {e : Key × V} (h : SgOk kvs) (he : e ∈ kvs) : ∃ c : Nat, e.1 = sgn c ∧ inS kvs c = true := by
  obtain ⟨c, n, rfl, _⟩ := h.one e he
  refine ⟨c, rfl, ?_⟩
  unfold inS
  rw [← valV_any]
  exact List.any_eq_true.mpr ⟨_, he, decide_eq_true rfl⟩
/-- all texts of a list one after the other -/
theorem allIn_app {kvs : Kvs} {a b : Str} : allIn kvs (a ++ b) = (allIn kvs a && allIn kvs b) := by
  unfold allIn
  have : (a ++ b).cps.toList = a.cps.toList ++ b.cps.toList := by
    show (a.cps ++ b.cps).toList = _
    simp
  rw [this, List.all_append]
/-! swaps -/
abbrev Pr := Str × Str
def PrAt (H : Hp) (a : Addr) (p : Pr) : Prop := H a = some (.tup [.str p.1, .str p.2])
def SwL (H : Hp) (l : Addr) (ps : List Pr) : Prop := ∃ as : List Addr, H l = some (.lst (as.map V.ref)) ∧ Paired (PrAt H) as ps
def prOk (kvs : Kvs) (p : Pr) : Bool := rowOk kvs 4 (.str p.1) && (rowOk kvs 4 (.str p.2) && (decide (p.1.length = p.2.length) && decide (wt kvs p.2 < wt kvs p.1)))
theorem paired_imp {α β : Type} {F G : α → β → Prop} (k : ∀ a b, F a b → G a b) : ∀ {l : List α} {m : List β}, Paired F l m → Paired G l m
  | _, _, .nil => .nil
  | _, _, .cons h t => .cons (k _ _ h) (paired_imp k t)
theorem paired_at {α β : Type} {F : α → β → Prop} : ∀ {l : List α} {m : List β} {i : Nat} {a : α}, Paired F l m → l[i]? = some a → ∃ b, m[i]? = some b ∧ F a b
  | _, _, i, a, .nil, h => by simp at h
  | _, _, 0, a, .cons f t, h => by cases h; exact ⟨_, rfl, f⟩
  | _, _, i + 1, a, .cons f t, h => by
    obtain ⟨b, hb, q⟩ := paired_at t (i := i) (a := a) (by simpa using h)
    exact ⟨b, by simpa using hb, q⟩
theorem paired_len {α β : Type} {F : α → β → Prop} : ∀ {l : List α} {m : List β}, Paired F l m → l.length = m.length
  | _, _, .nil => rfl
  | _, _, .cons _ t => by rw [List.length_cons, List.length_cons, paired_len t]
theorem paired_snoc {α β : Type} {F : α → β → Prop} {a : α} {b : β} : ∀ {l : List α} {m : List β}, Paired F l m → F a b → Paired F (l ++ [a]) (m ++ [b])
  | _, _, .nil, h => .cons h .nil
  | _, _, .cons f t, h => .cons f (paired_snoc t h)
theorem SwL.same {H H' : Hp} {l : Addr} {ps : List Pr} (h : SwL H l ps) (e : Same H H') : SwL H' l ps := let ⟨as, h1, h2⟩ := h; ⟨as, e _ _ h1, paired_imp (fun _ _ q => e _ _ q) h2⟩
theorem ref_ix {as : List Addr} {i : Nat} {v : V} (h : (as.map V.ref)[i]? = some v) : ∃ a, as[i]? = some a ∧ v = .ref a := by
  rw [List.getElem?_map] at h
  obtain ⟨a, h1, h2⟩ := Option.map_eq_some_iff.mp h
  exact ⟨a, h1, h2.symm⟩
/-! boards behind a swap -/
def hit (z o : Str) (i : Nat) : Bool := Txt.startswith3 z o i
def swAt (z : Str) (p : Pr) (i : Nat) : Str := cutS z none (some (i : Int)) ++ p.2 ++ cutS z (some ((i : Int) + (p.1.length : Int))) none
def turnS (z : Str) (p : Pr) (m : Nat) : List Str := ((List.range m).filter (hit z p.1)).map (swAt z p)
def genS (ps : List Pr) (z : Str) : List Str := ps.flatMap fun p => turnS z p z.length
theorem turnS_len (z : Str) (p : Pr) (m : Nat) : (turnS z p m).length ≤ m := by
  unfold turnS
  rw [List.length_map]
  exact Nat.le_trans (List.length_filter_le _ _) (by rw [List.length_range]; exact Nat.le_refl _)
theorem turnS_succ (z : Str) (p : Pr) (m : Nat) : turnS z p (m + 1) = turnS z p m ++ (if hit z p.1 m = true then [swAt z p m] else []) := by
  unfold turnS
  rw [List.range_succ, List.filter_append, List.map_append]
  congr 1
  by_cases h : hit z p.1 m = true <;> simp [h]
theorem genS_len (z : Str) : ∀ ps : List Pr, (genS ps z).length ≤ ps.length * z.length
  | [] => by simp [genS]
  | p :: r => by
    have h1 := genS_len z r
    have h2 := turnS_len z p z.length
    unfold genS at h1 ⊢
    rw [List.flatMap_cons, List.length_append, List.length_cons, Nat.succ_mul]
    omega
theorem genS_snoc (ps : List Pr) (p : Pr) (z : Str) : genS (ps ++ [p]) z = genS ps z ++ turnS z p z.length := by simp [genS]
theorem fromIx {n i : Nat} : fromIndex n (i : Int) = i := by unfold fromIndex; rw [if_neg (by omega)]; omega
theorem hit_iff {z o : Str} {i : Nat} : hit z o i = true ↔ i + o.length ≤ z.length ∧ (z.cps.toList.drop i).take o.length = o.cps.toList := by
  unfold hit Txt.startswith3
  rw [fromIx, Bool.and_eq_true, decide_eq_true_iff, StrLaws.subAt_eq, beq_iff_eq]
theorem cutS_mid {z : Str} {i n : Nat} (h : i + n ≤ z.length) : cutS z (some (i : Int)) (some ((i : Int) + (n : Int))) = ⟨((z.cps.toList.drop i).take n).toArray⟩ := by
  unfold cutS
  have e1 : HT.sIx z.length 0 (some (i : Int)) = i := sIx_nat (by omega)
  have e2 : HT.sIx z.length z.length (some ((i : Int) + (n : Int))) = i + n := by
    rw [show (i : Int) + (n : Int) = ((i + n : Nat) : Int) by omega]
    exact sIx_nat h
  rw [e1, e2, Nat.add_sub_cancel_left]
theorem hit_cut {z o : Str} {i : Nat} (h : i + o.length ≤ z.length) : decide (V.str (cutS z (some (i : Int)) (some ((i : Int) + (o.length : Int)))) = V.str o) = hit z o i := by
  rw [cutS_mid h]
  by_cases q : (z.cps.toList.drop i).take o.length = o.cps.toList
  · rw [hit_iff.mpr ⟨h, q⟩, decide_eq_true]
    rw [q]
  · have : hit z o i = false := by
      cases e : hit z o i with
      | false => rfl
      | true => exact (q (hit_iff.mp e).2).elim
    rw [this, decide_eq_false]
    intro e
    exact q (by have := congrArg (fun s : Str => s.cps.toList) (V.str.inj e); simpa using this)
end L2
namespace L2
open PySem PySem.Spec PyProof.Rows
/-- an instance whose signs stand already -/
def SigAt (C : Addr) (H : Hp) (p : Addr) (kvs : Kvs) : Prop := ∃ dx d fs, H p = some (.ins C dx (("signs", .ref d) :: fs)) ∧ H d = some (.dK kvs) ∧ (fs = [] ∨ ∃ t : Addr, fs = [(("swaps" : Str), V.ref t)])
theorem SigAt.same {C : Addr} {H H' : Hp} {p : Addr} {kvs : Kvs} (h : SigAt C H p kvs) (e : Same H H') : SigAt C H' p kvs := let ⟨dx, d, fs, h1, h2, h3⟩ := h; ⟨dx, d, fs, e _ _ h1, e _ _ h2, h3⟩
def spRow (K : PySem.W.Frag) (C : Addr) : Sp := fun vs H Q _ => ∃ (p : Addr) (v : V) (L : Nat) (kvs : Kvs), vs = [.ref p, v, .int L] ∧ SigAt C H p kvs ∧ BoardV K H v ∧ ∀ H', Same H H' → Q (.bl (rowOk kvs L v)) H'
def spWt (C : Addr) : Sp := fun vs H Q _ => ∃ (p : Addr) (z : Str) (kvs : Kvs), vs = [.ref p, .str z] ∧ SigAt C H p kvs ∧ SgOk kvs ∧ allIn kvs z = true ∧ z.length ≤ 1000 ∧ ∀ H', Same H H' → Q (.int (wt kvs z)) H'
def spSwap (C : Addr) : Sp := fun vs H Q _ => ∃ (p a : Addr) (pr : Pr) (kvs : Kvs), vs = [.ref p, .ref a] ∧ SigAt C H p kvs ∧ SgOk kvs ∧ PrAt H a pr ∧ pr.1.length ≤ 1000 ∧ pr.2.length ≤ 1000 ∧ ∀ H', Same H H' → Q (.bl (prOk kvs pr)) H'
/-- good signs, good swaps: the laws hand in nothing else here -/
def spGoodSg (C : Addr) : Sp := fun vs H Q _ => ∃ (p d : Addr) (kvs : Kvs), vs = [.ref p, .ref d] ∧ H d = some (.dK kvs) ∧ SgOk kvs ∧ 1 ≤ kvs.length ∧ kvs.length ≤ 8 ∧ ∀ H' l, Same H H' → H l = none → H' l = some (.dK kvs) → Q (.ref l) H'
def spGoodSw (C : Addr) : Sp := fun vs H Q _ => ∃ (p l : Addr) (ps : List Pr) (kvs : Kvs), vs = [.ref p, .ref l] ∧ SigAt C H p kvs ∧ SgOk kvs ∧ SwL H l ps ∧ ps.length ≤ 8 ∧ (∀ pr ∈ ps, prOk kvs pr = true) ∧
  ∀ H' m, Same H H' → H m = none → SwL H' m ps → Q (.ref m) H'
def SwAt (C : Addr) (kvs : Kvs) (us ds : List Pr) (H : Hp) (p : Addr) : Prop := ∃ dx d t l m, H p = some (.ins C dx [("signs", .ref d), ("swaps", .ref t)]) ∧ H d = some (.dK kvs) ∧ H t = some (.dK [(Sum.inr "up", .ref l), (Sum.inr "down", .ref m)]) ∧ SwL H l us ∧ SwL H m ds
theorem SwAt.same {C : Addr} {kvs : Kvs} {us ds : List Pr} {H H' : Hp} {p : Addr} (h : SwAt C kvs us ds H p) (e : Same H H') : SwAt C kvs us ds H' p := let ⟨dx, d, t, l, m, h1, h2, h3, h4, h5⟩ := h; ⟨dx, d, t, l, m, e _ _ h1, e _ _ h2, e _ _ h3, h4.same e, h5.same e⟩
theorem SwAt.sig {C : Addr} {kvs : Kvs} {us ds : List Pr} {H : Hp} {p : Addr} (h : SwAt C kvs us ds H p) : SigAt C H p kvs := let ⟨dx, d, t, l, m, h1, h2, h3, h4, h5⟩ := h; ⟨dx, d, _, h1, h2, .inr ⟨t, rfl⟩⟩
theorem prOk_use {kvs : Kvs} {pr : Pr} (h : prOk kvs pr = true) : pr.1.length ≤ 4 ∧ pr.2.length ≤ 4 ∧ allIn kvs pr.1 = true ∧ allIn kvs pr.2 = true ∧ pr.1.length = pr.2.length ∧ wt kvs pr.2 < wt kvs pr.1 := by
  simp only [prOk, rowOk, Bool.and_eq_true, decide_eq_true_eq] at h
  exact ⟨h.1.1, h.2.1.1, h.1.2, h.2.1.2, h.2.2.1, h.2.2.2⟩
end L2
namespace L2
open PySem PySem.Spec PyProof.Rows
section
variable {X : Cx} {o i : Expr} {td ty : TE} {pos : Pos}
theorem pe_dinC (hu : X.A.units + 1 < cLine) (hi : PE X i ty) (ho : PE X o td) (hm : behindInMarks .In o = false) : PE X (.Compare i [.In] [o] pos) (tDIn ty td) := pe_cmp (pc_din hu hi ho) hm
theorem pe_dninC (hu : X.A.units + 1 < cLine) (hi : PE X i ty) (ho : PE X o td) (hm : behindInMarks .NotIn o = false) : PE X (.Compare i [.NotIn] [o] pos) (tDNotIn ty td) := pe_cmp (pc_dnotin hu hi ho) hm
theorem pt_dinC (hu : X.A.units + 1 < cLine) (hi : PE X i ty) (ho : PE X o td) (hm : behindInMarks .In o = false) : PT X (.Compare i [.In] [o] pos) (tB (tDIn ty td)) := pt_cmp (pc_din hu hi ho) hm
theorem pt_dninC (hu : X.A.units + 1 < cLine) (hi : PE X i ty) (ho : PE X o td) (hm : behindInMarks .NotIn o = false) : PT X (.Compare i [.NotIn] [o] pos) (tB (tDNotIn ty td)) := pt_cmp (pc_dnotin hu hi ho) hm
end
end L2
namespace L2
open PySem PySem.Spec PyProof.Rows
section
variable {X : Cx} {e : Expr} {f : Str} {ta : TE} {pos : Pos}
theorem pe_fldB {K : PySem.W.Frag} (he : PE X e ta) (hK : X.K = K) (hb : attributeBase e f X.env (eval e X.env) = eval e X.env) : PE X (.Attribute e f pos) (tFld K ta f) := by
  subst hK
  exact pe_fld he hb
end
end L2
namespace L2
open PySem PySem.Spec PyProof.Rows
theorem SigAt.no {C : Addr} {H : Hp} {p : Addr} {kvs : Kvs} (h : SigAt C H p kvs) : ∃ dx fs, H p = some (.ins C dx fs) ∧ ∀ m : Str, m ≠ "signs" → m ≠ "swaps" → fs.lookup m = none := by
  obtain ⟨dx, d, fs, h1, _, h3⟩ := h
  refine ⟨dx, _, h1, fun m n1 n2 => ?_⟩
  rcases h3 with rfl | ⟨t, rfl⟩
  · rw [List.lookup_cons, beq_eq_false_iff_ne.mpr n1]; rfl
  · rw [List.lookup_cons, beq_eq_false_iff_ne.mpr n1]
    show List.lookup m [(("swaps" : Str), V.ref t)] = none
    rw [List.lookup_cons, beq_eq_false_iff_ne.mpr n2]; rfl
theorem rowOk_str {kvs : Kvs} {L : Nat} {z : Str} (h : rowOk kvs L (.str z) = true) : z.length ≤ L ∧ allIn kvs z = true := by
  simpa [rowOk] using h
end L2
namespace L2
open PySem PySem.Spec PyProof.Rows
theorem Same.unlock {H H' : Hp} {d : Addr} {u z : HO} (hd : H d = some u) (e : Same (upd H d z) H') : Same H (upd H' d u) := fun b o q => by
  by_cases h : b = d
  · subst h
    rw [hd] at q
    cases q
    exact upd_same
  · rw [upd_ne h]
    exact e _ _ (by rw [upd_ne h]; exact q)
theorem one_lt {a b : Nat} : ((⟨#[a]⟩ : Str).cps.toList < (⟨#[b]⟩ : Str).cps.toList) ↔ a < b := by
  show ([a] < [b]) ↔ a < b
  rw [List.cons_lt_cons_iff]
  constructor
  · rintro (h | ⟨_, h⟩)
    · exact h
    · exact (List.not_lt_nil _ h).elim
  · exact fun h => .inl h
end L2
namespace L2
open PySem PySem.Spec PyProof.Rows
def SwNew (C : Addr) (kvs : Kvs) (us ds : List Pr) (H H' : Hp) (p : Addr) : Prop := ∃ dx d t l m as bs, H d = none ∧ H t = none ∧ H l = none ∧ H m = none ∧ H' p = some (.ins C dx [("signs", .ref d), ("swaps", .ref t)]) ∧ H' d = some (.dK kvs) ∧
  H' t = some (.dK [(Sum.inr "up", .ref l), (Sum.inr "down", .ref m)]) ∧ H' l = some (.lst (List.map V.ref as)) ∧ H' m = some (.lst (List.map V.ref bs)) ∧ Paired (PrAt H') as us ∧ Paired (PrAt H') bs ds
theorem SwNew.at {C : Addr} {kvs : Kvs} {us ds : List Pr} {H H' H2 : Hp} {p : Addr} (h : SwNew C kvs us ds H H' p) (k : ∀ b o, H' b = some o → (b = p ∨ H b = none ∨ ∃ xs, o = .tup xs) → H2 b = some o) : SwAt C kvs us ds H2 p :=
  let ⟨dx, d, t, l, m, as, bs, a1, a2, a3, a4, h1, h2, h3, h4, h5, h6, h7⟩ := h
  ⟨dx, d, t, l, m, k _ _ h1 (.inl rfl), k _ _ h2 (.inr (.inl a1)), k _ _ h3 (.inr (.inl a2)), ⟨as, k _ _ h4 (.inr (.inl a3)), paired_imp (fun _ _ q => k _ _ q (.inr (.inr ⟨_, rfl⟩))) h6⟩, bs, k _ _ h5 (.inr (.inl a4)), paired_imp (fun _ _ q => k _ _ q (.inr (.inr ⟨_, rfl⟩))) h7⟩
def spSwInit (C : Addr) : Sp := fun vs H Q _ => ∃ p dx d l m kvs us ds, vs = [.ref p, .ref d, .ref l, .ref m] ∧ H p = some (.ins C dx []) ∧ H d = some (.dK kvs) ∧ SgOk kvs ∧ 1 ≤ kvs.length ∧ kvs.length ≤ 8 ∧ SwL H l us ∧ SwL H m ds ∧
  us.length ≤ 8 ∧ ds.length ≤ 8 ∧ (∀ pr ∈ us, prOk kvs pr = true) ∧ (∀ pr ∈ ds, prOk kvs pr = true) ∧ ∀ H', SwNew C kvs us ds H H' p → SameBut p H H' → Q .non H'
def chS (us ds : List Pr) (u : Bool) (z : Str) : List Str := genS (if u = true then us else ds) z
end L2
namespace L2
open PySem PySem.Spec PyProof.Rows
section
variable {X : Cx}
theorem ix_listB {K : PySem.W.Frag} (hK : X.K = K) : IxR X (rIxL K) := hK ▸ ix_list
theorem ix_tupB {K : PySem.W.Frag} (hK : X.K = K) : IxR X (rIxT K) := hK ▸ ix_tup
def rLenSeq (K : PySem.W.Frag) : List V → Hp → VK → Prop := fun xs H Q => ∃ p ys, xs = [.ref p] ∧ (SqL K H p ys ∨ SqT K H p ys) ∧ Q (.int ys.length) H
theorem call_len_seqB {K : PySem.W.Frag} (hK : X.K = K) : CallR X (.builtin "len") (rLenSeq K) := by
  subst hK
  exact call_len_seq
end
/-- the figure mill goes on; all else stays -/
def StM (H0 H : Hp) (a : Addr) : Prop := SameBut a H0 H ∧ ∃ s : Int, H a = some (.lst [.int s]) ∧ 0 ≤ s ∧ s < 2147483648
def StB (H : Hp) (a : Addr) : Prop := ∃ s : Int, H a = some (.lst [.int s]) ∧ 0 ≤ s ∧ s < 2147483648
theorem StB.refl {H : Hp} {a : Addr} (h : StB H a) : StM H H a := ⟨fun _ _ q _ => q, h⟩
theorem StM.bare {H0 H : Hp} {a : Addr} (h : StM H0 H a) : StB H a := h.2
theorem StM.trans {H0 H1 H2 : Hp} {a : Addr} (h : StM H0 H1 a) (h' : StM H1 H2 a) : StM H0 H2 a := ⟨fun b o q n => h'.1 b o (h.1 b o q n) n, h'.2⟩
theorem StM.same {H0 H H' : Hp} {a : Addr} (h : StM H0 H a) (e : Same H H') : StM H0 H' a := let ⟨k, s, hs, z⟩ := h; ⟨fun b o q n => e _ _ (k b o q n), s, e _ _ hs, z⟩
theorem StM.new {H0 H : Hp} {a p : Addr} {o : HO} (h : StM H0 H a) (n : H p = none) : StM H0 (upd H p o) a := h.same (Same.new n)
theorem StM.back {H0 H1 H : Hp} {a : Addr} (e : Same H0 H1) (h : StM H1 H a) : StM H0 H a := ⟨fun b o q n => h.1 b o (e b o q) n, h.2⟩
theorem StM.away {H0 H : Hp} {a p : Addr} (h : StM H0 H a) (n : H p = none) : p ≠ a := fun z => by
  obtain ⟨_, s, hs, _⟩ := h
  rw [z, hs] at n
  cases n
theorem StM.free {H0 H : Hp} {a p : Addr} (h : StM H0 H a) (n : H p = none) : H0 p = none := by
  cases e : H0 p with
  | none => rfl
  | some o => rw [h.1 p o e (h.away n)] at n; cases n
theorem StM.mut {H0 H : Hp} {a p : Addr} {o : HO} (h : StM H0 H a) (n : H0 p = none) (hp : p ≠ a) : StM H0 (upd H p o) a := let ⟨k, s, hs, z⟩ := h; ⟨fun b u q nb => by rw [upd_ne (ne_of_none q n)]; exact k b u q nb, s, by rw [upd_ne (Ne.symm hp)]; exact hs, z⟩
theorem StM.next {H0 H : Hp} {a : Addr} {m : Int} {Q : VK} {E : XK} (h : StM H0 H a) (hm : 1 ≤ m) (k : ∀ r H', 0 ≤ r → r < m → StM H0 H' a → (∀ b, b ≠ a → H' b = H b) → Q (.int r) H') : spLawNext [.ref a, .int m] H Q E := by
  obtain ⟨e, s, hs, z0, z1⟩ := h
  exact ⟨a, s, m, rfl, hs, z0, z1, hm, fun s' r z0' z1' r0 r1 => k r _ r0 r1 ⟨fun b o q n => by rw [upd_ne n]; exact e b o q n, s', upd_same, z0', z1'⟩ fun b hb => upd_ne hb⟩
theorem StM.out {H0 H1 H : Hp} {a : Addr} (h : StM H1 H a) (e : Same H0 H1) (n : H0 a = none) : Same H0 H := fun b o q => h.1 b o (e b o q) (ne_of_none q n)
theorem SwL.but {H H' : Hp} {l a : Addr} {ps : List Pr} {s : Int} (h : SwL H l ps) (k : SameBut a H H') (hs : H a = some (.lst [.int s])) : SwL H' l ps := by
  obtain ⟨as, h1, h2⟩ := h
  refine ⟨as, k _ _ h1 (fun z => ?_), paired_imp (fun _ _ q => k _ _ q (ne_of q hs (by intro z; cases z))) h2⟩
  subst z
  rw [hs] at h1
  have := HO.lst.inj (Option.some.inj h1)
  cases as with
  | nil => cases this
  | cons b r => cases List.head_eq_of_cons_eq this
def SIGNS8 : Str := "abcXo.-+"
theorem sign_at {k : Int} (h0 : 0 ≤ k) (h8 : k < 8) : ∃ c, atI ("abcXo.-+" : Str).cps.toList k = some c ∧ 33 ≤ c ∧ c ≤ 126 ∧ c ≠ 37 := by
  obtain rfl | rfl | rfl | rfl | rfl | rfl | rfl | rfl : k = 0 ∨ k = 1 ∨ k = 2 ∨ k = 3 ∨ k = 4 ∨ k = 5 ∨ k = 6 ∨ k = 7 := by omega
  all_goals exact ⟨_, rfl, by decide, by decide, by decide⟩
def spLSigns : Sp := fun vs H Q _ => ∃ a, vs = [.ref a] ∧ StB H a ∧ ∀ kvs d H', StM H H' a → H d = none → H' d = some (.dK kvs) → SgOk kvs → 1 ≤ kvs.length → kvs.length ≤ 5 → Q (.ref d) H'
def spLHeavy : Sp := fun vs H Q _ => ∃ d z kvs, vs = [.ref d, .str z] ∧ H d = some (.dK kvs) ∧ SgOk kvs ∧ allIn kvs z = true ∧ z.length ≤ 1000 ∧ ∀ H', Same H H' → Q (.int (wt kvs z)) H'
def spLRow : Sp := fun vs H Q _ => ∃ (a d : Addr) (m : Int) (kvs : Kvs), vs = [.ref a, .ref d, .int m] ∧ StB H a ∧ H d = some (.dK kvs) ∧ SgOk kvs ∧ 1 ≤ kvs.length ∧ kvs.length ≤ 8 ∧ 0 ≤ m ∧ m ≤ 20 ∧ ∀ z H', StM H H' a → (z.length : Int) = m → allIn kvs z = true → Q (.str z) H'
def spLSwaps : Sp := fun vs H Q _ => ∃ (a d : Addr) (kvs : Kvs), vs = [.ref a, .ref d] ∧ StB H a ∧ H d = some (.dK kvs) ∧ SgOk kvs ∧ 1 ≤ kvs.length ∧ kvs.length ≤ 8 ∧ ∀ us l H', StM H H' a → H l = none → SwL H' l us → us.length ≤ 5 → (∀ pr ∈ us, prOk kvs pr = true) → Q (.ref l) H'
def spLMovesS : Sp := fun vs H Q _ => ∃ (l : Addr) (z : Str) (ps : List Pr), vs = [.ref l, .str z] ∧ SwL H l ps ∧ ps.length ≤ 5 ∧ z.length ≤ 10 ∧ (∀ pr ∈ ps, 1 ≤ pr.1.length ∧ pr.1.length ≤ 4 ∧ pr.2.length ≤ 4) ∧
  ∀ H' m ys, Same H H' → H m = none → SortedOf (genS ps z) ys → H' m = some (.lst (ys.map V.str)) → Q (.ref m) H'
/-- a board that may be none, as the laws draw it -/
def BW (a : Addr) (H : Hp) (v : V) : Prop := (∃ z, v = .str z ∧ z.length ≤ 1000) ∨ v = .non ∨ (∃ i, v = .int i) ∨ (∃ b, v = .bl b) ∨ ∃ q, q ≠ a ∧ v = .ref q ∧ ((∃ xs, H q = some (.lst xs)) ∨ ∃ xs, H q = some (.tup xs))
theorem BW.away {a : Addr} {H H' : Hp} {v : V} (h : BW a H v) (e : ∀ b, b ≠ a → H' b = H b) : BW a H' v := by
  rcases h with h | h | h | h | ⟨q, n, rfl, hq⟩
  · exact .inl h
  · exact .inr (.inl h)
  · exact .inr (.inr (.inl h))
  · exact .inr (.inr (.inr (.inl h)))
  · exact .inr (.inr (.inr (.inr ⟨q, n, rfl, by rw [e q n]; exact hq⟩)))
theorem BW.same {a : Addr} {H H' : Hp} {v : V} (h : BW a H v) (e : Same H H') : BW a H' v := by
  rcases h with h | h | h | h | ⟨q, n, rfl, hq⟩
  · exact .inl h
  · exact .inr (.inl h)
  · exact .inr (.inr (.inl h))
  · exact .inr (.inr (.inr (.inl h)))
  · exact .inr (.inr (.inr (.inr ⟨q, n, rfl, hq.imp (fun ⟨xs, q⟩ => ⟨xs, e _ _ q⟩) (fun ⟨xs, q⟩ => ⟨xs, e _ _ q⟩)⟩)))
theorem BW.board {K : PySem.W.Frag} {a : Addr} {H : Hp} {v : V} (h : BW a H v) : BoardV K H v := by
  rcases h with h | rfl | ⟨i, rfl⟩ | ⟨b, rfl⟩ | ⟨q, n, rfl, ⟨xs, hq⟩ | ⟨xs, hq⟩⟩
  · exact .inl h
  · exact .inr ⟨_, .base .non, rfl⟩
  · exact .inr ⟨_, .base (.int i), rfl⟩
  · exact .inr ⟨_, .base (.bl b), rfl⟩
  · exact .inr ⟨_, .base (.lst hq), rfl⟩
  · exact .inr ⟨_, .base (.tup hq), rfl⟩
def spLBoard : Sp := fun vs H Q _ => ∃ (a d : Addr) (kvs : Kvs), vs = [.ref a, .ref d] ∧ StB H a ∧ H d = some (.dK kvs) ∧ SgOk kvs ∧ 1 ≤ kvs.length ∧ kvs.length ≤ 8 ∧ ∀ v H', StM H H' a → BW a H' v → Q v H'
theorem turnS_all {z : Str} {p : Pr} {m : Nat} : ∀ k, (∀ i, m ≤ i → i < m + k → hit z p.1 i = false) → turnS z p (m + k) = turnS z p m
  | 0, _ => rfl
  | k + 1, h => by
    show turnS z p (m + k + 1) = _
    rw [turnS_succ, turnS_all k fun i h1 h2 => h i h1 (by omega), h (m + k) (by omega) (by omega)]
    simp
theorem SgOk.names {kvs : Kvs} (h : SgOk kvs) : ∃ cs : List Nat, kvs.map (fun kv => kV kv.1) = cs.map (fun c => V.str ⟨#[c]⟩) ∧ ∀ c ∈ cs, inS kvs c = true := by
  have : ∀ l : Kvs, (∀ e ∈ l, e ∈ kvs) → ∃ cs : List Nat, l.map (fun kv => kV kv.1) = cs.map (fun c => V.str ⟨#[c]⟩) ∧ ∀ c ∈ cs, inS kvs c = true := by
    intro l
    induction l with
    | nil => intro _; exact ⟨[], rfl, fun c hc => nomatch hc⟩
    | cons e r ih =>
      intro hm
      obtain ⟨cs, e1, e2⟩ := ih fun x hx => hm x (List.mem_cons_of_mem _ hx)
      obtain ⟨c, hc, hi⟩ := h.has (hm e List.mem_cons_self)
      refine ⟨c :: cs, ?_, fun x hx => ?_⟩
      · rw [List.map_cons, List.map_cons, e1, hc]; rfl
      · rcases List.mem_cons.mp hx with q | q
        · rw [q]; exact hi
        · exact e2 x q
  exact this kvs fun e he => he
end L2
namespace L2
open PySem PySem.Spec PyProof.Rows
theorem putK_pos (kvs : Kvs) (k : Key) (v : V) : 1 ≤ (putK kvs k v).length := by
  unfold putK
  split
  · rename_i h
    cases kvs with
    | nil => cases h
    | cons e r => rw [List.length_map, List.length_cons]; omega
  · rw [List.length_append, List.length_singleton]; omega
theorem allIn_signs {kvs : Kvs} {cs : List Nat} (h : ∀ c ∈ cs, inS kvs c = true) : allIn kvs (Txt.join ("" : Str) (cs.map fun c => (⟨#[c]⟩ : Str))) = true := by
  unfold allIn
  rw [join_signs]
  exact List.all_eq_true.mpr h
theorem sum_ones (cs : List Nat) : (List.map (fun x : Str => x.length) (cs.map fun c => (⟨#[c]⟩ : Str))).sum = cs.length := by
  induction cs with
  | nil => rfl
  | cons c r ih =>
    have : (⟨#[c]⟩ : Str).length = 1 := rfl
    simp only [List.map_cons, List.sum_cons, List.length_cons, this, ih]
    omega
end L2
namespace L2
open PySem PySem.Spec PyProof.Rows
theorem SwL.stm {H H' : Hp} {l a : Addr} {ps : List Pr} (h : SwL H l ps) (sb : StB H a) (st : StM H H' a) : SwL H' l ps := by
  obtain ⟨s, hs, _⟩ := sb
  exact h.but st.1 hs
theorem StB.ne {H : Hp} {a d : Addr} {kvs : Kvs} (h : StB H a) (hd : H d = some (.dK kvs)) : d ≠ a := by
  obtain ⟨s, hs, _⟩ := h
  exact ne_of hd hs (by intro z; cases z)
theorem two_four {r : Int} (h0 : 0 ≤ r) (h2 : r < 2) : ∃ m : Int, atI [V.int 2, V.int 4] r = some (.int m) ∧ 1 ≤ m ∧ m ≤ 4 := by
  obtain rfl | rfl : r = 0 ∨ r = 1 := by omega
  · exact ⟨2, rfl, by decide, by decide⟩
  · exact ⟨4, rfl, by decide, by decide⟩
theorem prOk_mk {kvs : Kvs} {o n : Str} {m : Nat} (ho : o.length = m) (hn : n.length = m) (m4 : m ≤ 4) (io : allIn kvs o = true) (iN : allIn kvs n = true) (h : wt kvs n < wt kvs o) : prOk kvs (o, n) = true := by
  show (rowOk kvs 4 (.str o) && (rowOk kvs 4 (.str n) && (decide (o.length = n.length) && decide (wt kvs n < wt kvs o)))) = true
  have h1 : rowOk kvs 4 (.str o) = true := by simp [rowOk, io, ho, m4]
  have h2 : rowOk kvs 4 (.str n) = true := by simp [rowOk, iN, hn, m4]
  rw [h1, h2, decide_eq_true (ho.trans hn.symm), decide_eq_true h]
  rfl
theorem prOk_pos {kvs : Kvs} {pr : Pr} (h : prOk kvs pr = true) : 1 ≤ pr.1.length := by
  obtain ⟨_, _, _, _, e, l⟩ := prOk_use h
  by_cases z : pr.1.length = 0
  · have z2 : pr.2.length = 0 := by omega
    have w0 : ∀ x : Str, x.length = 0 → wt kvs x = 0 := fun x hx => by
      have : x.cps.toList = [] := List.length_eq_zero_iff.mp (by rw [cps_len]; exact hx)
      unfold wt
      rw [this]
      rfl
    rw [w0 _ z, w0 _ z2] at l
    omega
  · omega
theorem turnS_short {z : Str} {p : Pr} {m : Nat} (hm : m ≤ z.length) (h : z.length < m + p.1.length) : turnS z p z.length = turnS z p m := by
  have e : z.length = m + (z.length - m) := by omega
  have q := turnS_all (z := z) (p := p) (m := m) (z.length - m) fun i h1 h2 => by
    cases hh : hit z p.1 i with
    | false => rfl
    | true =>
      have := (hit_iff.mp hh).1
      omega
  rw [← e] at q
  exact q
end L2
namespace L2
open PySem PySem.Spec PyProof.Rows
theorem Room.u65 {k : Nat} {A : Around} (r : Room k A) : A.units + 65 < cLine := by have := r.un; omega
theorem val_mem {kvs : Kvs} (nd : (kvs.map (·.1)).Nodup) {e : Key × V} (h : e ∈ kvs) : valV kvs e.1 = some e.2 := by
  induction kvs with
  | nil => cases h
  | cons p r ih =>
    rw [List.map_cons, List.nodup_cons] at nd
    rcases List.mem_cons.mp h with q | q
    · rw [q]; exact valV_pos rfl
    · rw [valV_neg fun z => nd.1 (z ▸ List.mem_map.mpr ⟨e, q, rfl⟩)]
      exact ih nd.2 q
theorem told_due' {K : PySem.W.Frag} {O : Hp → Addr → Prop} {good : V → Bool} {ch : Bool → Str → List Str} {p : Addr} {v h : V} {H : Hp} {Q : VK} {E : XK}
    (hO : O H p) (hv : BoardV K H v) (hh : HandV K H h) (k : ∀ t H', Same H H' → Due good ch H' v h t → (∀ l, t = .ref l → H l = none) → Q t H') : spLawTold K O good ch [.ref p, v, h] H Q E :=
  ⟨p, v, h, rfl, hO, hv, hh, fun g H' e => k _ _ e (.inl ⟨g, rfl⟩) (fun l z => nomatch z), fun g n H' e => k _ _ e (.inr (.inl ⟨g, n, rfl⟩)) (fun l z => nomatch z),
    fun z u ev g eh H' l ys e f so hl => k _ _ e (.inr (.inr ⟨z, u, l, ys, ev, g, eh, rfl, hl, so⟩)) fun l' q => by cases q; exact f⟩
theorem Due.other {good : V → Bool} {ch ch' : Bool → Str → List Str} {H : Hp} {v h d : V} (D : Due good ch H v h d) (n : good v = false ∨ ∀ u, h ≠ .str (handS u)) : Due good ch' H v h d := by
  rcases D with D | D | ⟨z, u, l, ys, a, b, c, _⟩
  · exact .inl D
  · exact .inr (.inl D)
  · rcases n with n | n
    · rw [b] at n; cases n
    · exact (n u c).elim
/-- a hand, or what is none -/
def HandX (H : Hp) (h : V) : Prop := (∃ u, h = .str (handS u)) ∨ h = .str "left" ∨ h = .non ∨ ∃ q, h = .ref q ∧ (H q = some (.tup [.str "up"]) ∨ H q = some (.lst [.str "up"]))
theorem HandX.same {H H' : Hp} {h : V} (x : HandX H h) (e : Same H H') : HandX H' h :=
  x.imp id fun x => x.imp id fun x => x.imp id fun ⟨q, a, b⟩ => ⟨q, a, b.imp (e _ _) (e _ _)⟩
theorem HandX.hand {K : PySem.W.Frag} {H : Hp} {h : V} (x : HandX H h) : HandV K H h := by
  rcases x with ⟨u, rfl⟩ | rfl | rfl | ⟨q, rfl, h | h⟩
  · exact .inl ⟨_, rfl⟩
  · exact .inl ⟨_, rfl⟩
  · exact .inr ⟨_, .base .non, rfl⟩
  · exact .inr ⟨_, .base (.tup h), rfl⟩
  · exact .inr ⟨_, .base (.lst h), rfl⟩
theorem HandX.data {K : PySem.W.Frag} {H : Hp} {h : V} (x : HandX H h) : ∃ d, Dp K H h d ∧ SeqAt.shaped d = true ∧
    (([PyData.str "up", .str "down"].any fun z => PyData.eqv z d) = true ∧ (∃ u, h = .str (handS u)) ∨ ([PyData.str "up", .str "down"].any fun z => PyData.eqv z d) = false ∧ ∀ u, h ≠ .str (handS u)) := by
  rcases x with ⟨u, rfl⟩ | rfl | rfl | ⟨q, rfl, h | h⟩
  · refine ⟨_, .str _, ?_, .inl ⟨?_, u, rfl⟩⟩
    · cases u <;> decide +kernel
    · cases u <;> decide +kernel
  · exact ⟨_, .str _, by decide +kernel, .inr ⟨by decide +kernel, fun u e => by cases u <;> exact absurd (V.str.inj e) (by decide)⟩⟩
  · exact ⟨_, .non, by decide +kernel, .inr ⟨by decide +kernel, fun u e => nomatch e⟩⟩
  · exact ⟨_, .tup (SqT.of h) (.cons (.str _) .nil), by decide +kernel, .inr ⟨by decide +kernel, fun u e => nomatch e⟩⟩
  · exact ⟨_, .lst (SqL.of h) (.cons (.str _) .nil), by decide +kernel, .inr ⟨by decide +kernel, fun u e => nomatch e⟩⟩
theorem up_down {K : PySem.W.Frag} {H : Hp} {p : Addr} (h : H p = some (.lst [.str "up", .str "down"])) : Dp K H (.ref p) (.list [.str "up", .str "down"]) := .lst (SqL.of h) (.cons (.str _) (.cons (.str _) .nil))
theorem good_list {f : Nat → Bool} {z : Str} : PyData.eqv (.list (((z.cps.toList.filter fun c => !f c).map fun _ => (1 : Int)).map PyData.int)) (.list []) = z.cps.toList.all f := by
  cases e : z.cps.toList.filter fun c => !f c with
  | nil =>
    have : z.cps.toList.all f = true := by
      have := List.filter_eq_nil_iff.mp e
      rw [List.all_eq_true]
      intro c hc
      have := this c hc
      simpa using this
    rw [this]
    simp [PyData.eqv, PyData.eqvAll]
  | cons c r =>
    have : z.cps.toList.all f = false := by
      have hc : c ∈ z.cps.toList.filter fun c => !f c := by rw [e]; exact List.mem_cons_self
      obtain ⟨h1, h2⟩ := List.mem_filter.mp hc
      cases hg : z.cps.toList.all f with
      | false => rfl
      | true =>
        rw [List.all_eq_true] at hg
        rw [hg c h1] at h2
        cases h2
    rw [this]
    simp [PyData.eqv, PyData.eqvAll]
theorem swAt_lay {kvs : Kvs} (hs : SgOk kvs) {z : Str} {pr : Pr} {i : Nat} (hz : allIn kvs z = true) (hn : allIn kvs pr.2 = true) : PyData.canLay0 (.str (swAt z pr i)) = true := by
  have hb : ∀ x : Str, allIn kvs x = true → ∀ c ∈ x.cps.toList, c < 0x110000 := fun x hx c hc => by
    obtain ⟨_, _, _, _, h, _⟩ := hs.at (List.all_eq_true.mp hx c hc)
    omega
  refine lay_str fun c hc => ?_
  unfold swAt at hc
  rcases app_mem hc with h | h
  · rcases app_mem h with h | h
    · exact hb z hz c (cutS_mem h)
    · exact hb _ hn c h
  · exact hb z hz c (cutS_mem h)
theorem genS_lay {kvs : Kvs} (hs : SgOk kvs) {z y : Str} {ps : List Pr} (hz : allIn kvs z = true) (hn : ∀ pr ∈ ps, allIn kvs pr.2 = true) (h : y ∈ genS ps z) : PyData.canLay0 (.str y) = true := by
  obtain ⟨pr, hp, h⟩ := List.mem_flatMap.mp h
  obtain ⟨i, _, rfl⟩ := List.mem_map.mp h
  exact swAt_lay hs hz (hn pr hp)
theorem chS_len {kvs : Kvs} {us ds : List Pr} (u6 : us.length ≤ 6) (d6 : ds.length ≤ 6) (u : Bool) {z : Str} (h : rowOk kvs 10 (.str z) = true) : (chS us ds u z).length < 64 := by
  obtain ⟨h10, _⟩ := rowOk_str h
  have h1 := genS_len z (if u = true then us else ds)
  have h2 : (if u = true then us else ds).length ≤ 6 := by split <;> assumption
  have h3 : (if u = true then us else ds).length * z.length ≤ 6 * 10 := Nat.mul_le_mul h2 h10
  unfold chS
  omega
theorem rowOk_is {kvs : Kvs} {L : Nat} (v : V) (h : rowOk kvs L v = true) : ∃ z, v = .str z := by
  cases v <;> first | exact ⟨_, rfl⟩ | exact absurd h Bool.false_ne_true
end L2
namespace L2
open PySem PySem.Spec PyProof.Rows
theorem paired_refs {K : PySem.W.Frag} {H : Hp} {n : Nat} : ∀ as : List Addr, Paired (EqV K H (n + 1)) (as.map V.ref) (as.map V.ref)
  | [] => .nil
  | a :: r => .cons (.inr (.inl ⟨a, rfl, rfl⟩)) (paired_refs r)
end L2
namespace L2
open PySem PySem.Spec PyProof.Rows
theorem two_bools (g : Bool) : SeqAt.shaped (.list [.bool g, .bool g]) = true ∧ PyData.eqv (.list [.bool g, .bool g]) (.list [.bool g, .bool g]) = true := by cases g <;> decide +kernel
theorem len_sub {α : Type} [DecidableEq α] : ∀ {ys xs : List α}, ys.Nodup → (∀ y ∈ ys, y ∈ xs) → ys.length ≤ xs.length
  | [], _, _, _ => Nat.zero_le _
  | y :: r, xs, nd, h => by
    rw [List.nodup_cons] at nd
    have hy := h y List.mem_cons_self
    have := len_sub (xs := xs.erase y) nd.2 fun z hz => (List.mem_erase_of_ne fun (e : z = y) => nd.1 (by rw [← e]; exact hz)).mpr (h z (List.mem_cons_of_mem _ hz))
    rw [List.length_erase_of_mem hy] at this
    have : 0 < xs.length := List.length_pos_of_mem hy
    rw [List.length_cons]
    omega
theorem SortedOf.len {xs ys : List Str} (h : SortedOf xs ys) : ys.length ≤ xs.length := len_sub h.2.1 fun y hy => (h.2.2 y).mp hy
theorem Due.lit {good : V → Bool} {ch : Bool → Str → List Str} {H : Hp} {v h : V} (n : good v = false ∨ ∀ u, h ≠ .str (handS u)) : Due good ch H v h (.str (if good v = true then "NoHand" else "NoBoard")) := by
  cases g : good v with
  | false => exact .inl ⟨g, rfl⟩
  | true => exact .inr (.inl ⟨g, n.resolve_left (by rw [g]; exact Bool.noConfusion), rfl⟩)
end L2
namespace K71
open PySem L2
/-! ### the text by places -/
def top (i : Nat) : Stmt := PySem.Challenge.pw_duelsum_k71_swaps.main.body.getD i (.Pass ⟨0, 0, 0, 0⟩)
abbrev sis_number : Stmt := top 14
abbrev sRule_moves : Stmt := inClass (top 15) 3
abbrev sSwaps___init__ : Stmt := inClass (top 16) 0
abbrev sSwaps_good_signs : Stmt := inClass (top 16) 1
abbrev sSwaps_is_row : Stmt := inClass (top 16) 2
abbrev sSwaps_is_swap : Stmt := inClass (top 16) 3
abbrev sSwaps_good_swaps : Stmt := inClass (top 16) 4
abbrev sSwaps_is_board : Stmt := inClass (top 16) 5
abbrev sSwaps_weight : Stmt := inClass (top 16) 6
abbrev sSwaps_changed : Stmt := inClass (top 16) 7
abbrev sTurned___init__ : Stmt := inClass (top 17) 0
abbrev sTurned_is_board : Stmt := inClass (top 17) 1
abbrev sTurned_changed : Stmt := inClass (top 17) 3
abbrev slaw_next : Stmt := top 19
abbrev slaw_cell : Stmt := top 20
abbrev slaw_state : Stmt := top 21
abbrev slaw_signs : Stmt := top 24
abbrev slaw_heavy : Stmt := top 25
abbrev slaw_row : Stmt := top 26
abbrev slaw_swaps : Stmt := top 27
abbrev slaw_moves : Stmt := top 28
abbrev slaw_told : Stmt := top 29
abbrev slaw_board : Stmt := top 30
abbrev slaw : Stmt := top 31
theorem scis_number : FnScope ["thing", "least", "most"] ["thing", "least", "most"] (defScope sis_number) := ⟨rfl, rfl, rfl, by decide +kernel, rfl, by decide +kernel, by decide +kernel⟩
theorem scRule_moves : FnScope ["self", "board", "hand"] ["self", "board", "hand"] (defScope sRule_moves) := ⟨rfl, rfl, rfl, by decide +kernel, rfl, by decide +kernel, by decide +kernel⟩
theorem scSwaps___init__ : FnScope ["self", "signs", "ups", "downs"] ["self", "signs", "ups", "downs"] (defScope sSwaps___init__) := ⟨rfl, rfl, rfl, by decide +kernel, rfl, by decide +kernel, by decide +kernel⟩
theorem scSwaps_good_signs : FnScope ["self", "signs", "sign", "heavy"] ["self", "signs"] (defScope sSwaps_good_signs) := ⟨rfl, rfl, rfl, by decide +kernel, rfl, by decide +kernel, by decide +kernel⟩
theorem scSwaps_is_row : FnScope ["self", "thing", "longest", "sign"] ["self", "thing", "longest"] (defScope sSwaps_is_row) := ⟨rfl, rfl, rfl, by decide +kernel, rfl, by decide +kernel, by decide +kernel⟩
theorem scSwaps_is_swap : FnScope ["self", "swap"] ["self", "swap"] (defScope sSwaps_is_swap) := ⟨rfl, rfl, rfl, by decide +kernel, rfl, by decide +kernel, by decide +kernel⟩
theorem scSwaps_good_swaps : FnScope ["self", "swaps", "swap"] ["self", "swaps"] (defScope sSwaps_good_swaps) := ⟨rfl, rfl, rfl, by decide +kernel, rfl, by decide +kernel, by decide +kernel⟩
theorem scSwaps_is_board : FnScope ["self", "board"] ["self", "board"] (defScope sSwaps_is_board) := ⟨rfl, rfl, rfl, by decide +kernel, rfl, by decide +kernel, by decide +kernel⟩
theorem scSwaps_weight : FnScope ["self", "board", "sign"] ["self", "board"] (defScope sSwaps_weight) := ⟨rfl, rfl, rfl, by decide +kernel, rfl, by decide +kernel, by decide +kernel⟩
theorem scSwaps_changed : FnScope ["self", "board", "hand", "found", "old", "new", "at"] ["self", "board", "hand"] (defScope sSwaps_changed) := ⟨rfl, rfl, rfl, by decide +kernel, rfl, by decide +kernel, by decide +kernel⟩
theorem scTurned___init__ : FnScope ["self", "rule"] ["self", "rule"] (defScope sTurned___init__) := ⟨rfl, rfl, rfl, by decide +kernel, rfl, by decide +kernel, by decide +kernel⟩
theorem scTurned_is_board : FnScope ["self", "board"] ["self", "board"] (defScope sTurned_is_board) := ⟨rfl, rfl, rfl, by decide +kernel, rfl, by decide +kernel, by decide +kernel⟩
theorem scTurned_changed : FnScope ["self", "board", "hand"] ["self", "board", "hand"] (defScope sTurned_changed) := ⟨rfl, rfl, rfl, by decide +kernel, rfl, by decide +kernel, by decide +kernel⟩
theorem sclaw_next : FnScope ["_law_state_here", "_law_many"] ["_law_state_here", "_law_many"] (defScope slaw_next) := ⟨rfl, rfl, rfl, by decide +kernel, rfl, by decide +kernel, by decide +kernel⟩
theorem sclaw_cell : FnScope ["_law_script", "_law_k"] ["_law_script", "_law_k"] (defScope slaw_cell) := ⟨rfl, rfl, rfl, by decide +kernel, rfl, by decide +kernel, by decide +kernel⟩
theorem sclaw_state : FnScope ["_law_cell_here", "_law_k", "_law_mixed"] ["_law_cell_here", "_law_k"] (defScope slaw_state) := ⟨rfl, rfl, rfl, by decide +kernel, rfl, by decide +kernel, by decide +kernel⟩
theorem sclaw_signs : FnScope ["_law_state_here", "_law_signs_here", "_law_k"] ["_law_state_here"] (defScope slaw_signs) := ⟨rfl, rfl, rfl, by decide +kernel, rfl, by decide +kernel, by decide +kernel⟩
theorem sclaw_heavy : FnScope ["_law_signs_here", "_law_text", "_law_sign"] ["_law_signs_here", "_law_text"] (defScope slaw_heavy) := ⟨rfl, rfl, rfl, by decide +kernel, rfl, by decide +kernel, by decide +kernel⟩
theorem sclaw_row : FnScope ["_law_state_here", "_law_signs_here", "_law_many", "_law_names", "_law_k"] ["_law_state_here", "_law_signs_here", "_law_many"] (defScope slaw_row) := ⟨rfl, rfl, rfl, by decide +kernel, rfl, by decide +kernel, by decide +kernel⟩
theorem sclaw_swaps : FnScope ["_law_state_here", "_law_signs_here", "_law_found", "_law_k", "_law_many", "_law_old", "_law_new"] ["_law_state_here", "_law_signs_here"] (defScope slaw_swaps) := ⟨rfl, rfl, rfl, by decide +kernel, rfl, by decide +kernel, by decide +kernel⟩
theorem sclaw_moves : FnScope ["_law_swaps_here", "_law_board_here", "_law_found", "_law_old", "_law_new", "_law_at"] ["_law_swaps_here", "_law_board_here"] (defScope slaw_moves) := ⟨rfl, rfl, rfl, by decide +kernel, rfl, by decide +kernel, by decide +kernel⟩
theorem sclaw_told : FnScope ["_law_rule", "_law_board_here", "_law_hand", "_law_error", "_law_found", "e"] ["_law_rule", "_law_board_here", "_law_hand"] (defScope slaw_told) := ⟨rfl, rfl, rfl, by decide +kernel, rfl, by decide +kernel, by decide +kernel⟩
theorem sclaw_board : FnScope ["_law_state_here", "_law_signs_here", "_law_way"] ["_law_state_here", "_law_signs_here"] (defScope slaw_board) := ⟨rfl, rfl, rfl, by decide +kernel, rfl, by decide +kernel, by decide +kernel⟩
theorem sclaw : FnScope ["_law_script", "_law_state_here", "_law_signs_here", "_law_ups", "_law_downs", "_law_handed", "_law_rule", "_law_mirror", "_law_k", "_law_board_here", "_law_hand", "_law_good", "_law_found", "_law_due", "_law_other", "_law_sign"] ["_law_script"] (defScope slaw) := ⟨rfl, rfl, rfl, by decide +kernel, rfl, by decide +kernel, by decide +kernel⟩
/-! ### where all stands -/
structure Ad where
  fis_number : Addr
  dis_number : FuncData
  fRule_moves : Addr
  dRule_moves : FuncData
  fSwaps___init__ : Addr
  dSwaps___init__ : FuncData
  fSwaps_good_signs : Addr
  dSwaps_good_signs : FuncData
  fSwaps_is_row : Addr
  dSwaps_is_row : FuncData
  fSwaps_is_swap : Addr
  dSwaps_is_swap : FuncData
  fSwaps_good_swaps : Addr
  dSwaps_good_swaps : FuncData
  fSwaps_is_board : Addr
  dSwaps_is_board : FuncData
  fSwaps_weight : Addr
  dSwaps_weight : FuncData
  fSwaps_changed : Addr
  dSwaps_changed : FuncData
  fTurned___init__ : Addr
  dTurned___init__ : FuncData
  fTurned_is_board : Addr
  dTurned_is_board : FuncData
  fTurned_changed : Addr
  dTurned_changed : FuncData
  flaw_next : Addr
  dlaw_next : FuncData
  flaw_cell : Addr
  dlaw_cell : FuncData
  flaw_state : Addr
  dlaw_state : FuncData
  flaw_signs : Addr
  dlaw_signs : FuncData
  flaw_heavy : Addr
  dlaw_heavy : FuncData
  flaw_row : Addr
  dlaw_row : FuncData
  flaw_swaps : Addr
  dlaw_swaps : FuncData
  flaw_moves : Addr
  dlaw_moves : FuncData
  flaw_told : Addr
  dlaw_told : FuncData
  flaw_board : Addr
  dlaw_board : FuncData
  flaw : Addr
  dlaw : FuncData
  cDuelError : Addr
  cNoRule : Addr
  cNoBoard : Addr
  cNoHand : Addr
  cRule : Addr
  cSwaps : Addr
  cTurned : Addr
  aHANDS : Addr
structure Txt (K : PySem.W.Frag) (mg : Str → Option Value) (A : Ad) : Prop where
  Fis_number : Fun K "is_number" "is_number" sis_number A.fis_number A.dis_number
  Bis_number : Binds K A.dis_number ["thing", "least", "most"] []
  mis_number : mg "is_number" = some (.ref A.fis_number)
  FRule_moves : Fun K "moves" "Rule.moves" sRule_moves A.fRule_moves A.dRule_moves
  BRule_moves : Binds K A.dRule_moves ["self", "board", "hand"] []
  FSwaps___init__ : Fun K "__init__" "Swaps.__init__" sSwaps___init__ A.fSwaps___init__ A.dSwaps___init__
  BSwaps___init__ : Binds K A.dSwaps___init__ ["self", "signs", "ups", "downs"] []
  FSwaps_good_signs : Fun K "good_signs" "Swaps.good_signs" sSwaps_good_signs A.fSwaps_good_signs A.dSwaps_good_signs
  BSwaps_good_signs : Binds K A.dSwaps_good_signs ["self", "signs"] []
  FSwaps_is_row : Fun K "is_row" "Swaps.is_row" sSwaps_is_row A.fSwaps_is_row A.dSwaps_is_row
  BSwaps_is_row : Binds K A.dSwaps_is_row ["self", "thing", "longest"] []
  FSwaps_is_swap : Fun K "is_swap" "Swaps.is_swap" sSwaps_is_swap A.fSwaps_is_swap A.dSwaps_is_swap
  BSwaps_is_swap : Binds K A.dSwaps_is_swap ["self", "swap"] []
  FSwaps_good_swaps : Fun K "good_swaps" "Swaps.good_swaps" sSwaps_good_swaps A.fSwaps_good_swaps A.dSwaps_good_swaps
  BSwaps_good_swaps : Binds K A.dSwaps_good_swaps ["self", "swaps"] []
  FSwaps_is_board : Fun K "is_board" "Swaps.is_board" sSwaps_is_board A.fSwaps_is_board A.dSwaps_is_board
  BSwaps_is_board : Binds K A.dSwaps_is_board ["self", "board"] []
  FSwaps_weight : Fun K "weight" "Swaps.weight" sSwaps_weight A.fSwaps_weight A.dSwaps_weight
  BSwaps_weight : Binds K A.dSwaps_weight ["self", "board"] []
  FSwaps_changed : Fun K "changed" "Swaps.changed" sSwaps_changed A.fSwaps_changed A.dSwaps_changed
  BSwaps_changed : Binds K A.dSwaps_changed ["self", "board", "hand"] []
  FTurned___init__ : Fun K "__init__" "Turned.__init__" sTurned___init__ A.fTurned___init__ A.dTurned___init__
  BTurned___init__ : Binds K A.dTurned___init__ ["self", "rule"] []
  FTurned_is_board : Fun K "is_board" "Turned.is_board" sTurned_is_board A.fTurned_is_board A.dTurned_is_board
  BTurned_is_board : Binds K A.dTurned_is_board ["self", "board"] []
  FTurned_changed : Fun K "changed" "Turned.changed" sTurned_changed A.fTurned_changed A.dTurned_changed
  BTurned_changed : Binds K A.dTurned_changed ["self", "board", "hand"] []
  Flaw_next : Fun K "_law_next" "_law_next" slaw_next A.flaw_next A.dlaw_next
  Blaw_next : Binds K A.dlaw_next ["_law_state_here", "_law_many"] []
  mlaw_next : mg "_law_next" = some (.ref A.flaw_next)
  Flaw_cell : Fun K "_law_cell" "_law_cell" slaw_cell A.flaw_cell A.dlaw_cell
  Blaw_cell : Binds K A.dlaw_cell ["_law_script", "_law_k"] []
  mlaw_cell : mg "_law_cell" = some (.ref A.flaw_cell)
  Flaw_state : Fun K "_law_state" "_law_state" slaw_state A.flaw_state A.dlaw_state
  Blaw_state : Binds K A.dlaw_state ["_law_cell_here", "_law_k"] []
  mlaw_state : mg "_law_state" = some (.ref A.flaw_state)
  Flaw_signs : Fun K "_law_signs" "_law_signs" slaw_signs A.flaw_signs A.dlaw_signs
  Blaw_signs : Binds K A.dlaw_signs ["_law_state_here"] []
  mlaw_signs : mg "_law_signs" = some (.ref A.flaw_signs)
  Flaw_heavy : Fun K "_law_heavy" "_law_heavy" slaw_heavy A.flaw_heavy A.dlaw_heavy
  Blaw_heavy : Binds K A.dlaw_heavy ["_law_signs_here", "_law_text"] []
  mlaw_heavy : mg "_law_heavy" = some (.ref A.flaw_heavy)
  Flaw_row : Fun K "_law_row" "_law_row" slaw_row A.flaw_row A.dlaw_row
  Blaw_row : Binds K A.dlaw_row ["_law_state_here", "_law_signs_here", "_law_many"] []
  mlaw_row : mg "_law_row" = some (.ref A.flaw_row)
  Flaw_swaps : Fun K "_law_swaps" "_law_swaps" slaw_swaps A.flaw_swaps A.dlaw_swaps
  Blaw_swaps : Binds K A.dlaw_swaps ["_law_state_here", "_law_signs_here"] []
  mlaw_swaps : mg "_law_swaps" = some (.ref A.flaw_swaps)
  Flaw_moves : Fun K "_law_moves" "_law_moves" slaw_moves A.flaw_moves A.dlaw_moves
  Blaw_moves : Binds K A.dlaw_moves ["_law_swaps_here", "_law_board_here"] []
  mlaw_moves : mg "_law_moves" = some (.ref A.flaw_moves)
  Flaw_told : Fun K "_law_told" "_law_told" slaw_told A.flaw_told A.dlaw_told
  Blaw_told : Binds K A.dlaw_told ["_law_rule", "_law_board_here", "_law_hand"] []
  mlaw_told : mg "_law_told" = some (.ref A.flaw_told)
  Flaw_board : Fun K "_law_board" "_law_board" slaw_board A.flaw_board A.dlaw_board
  Blaw_board : Binds K A.dlaw_board ["_law_state_here", "_law_signs_here"] []
  mlaw_board : mg "_law_board" = some (.ref A.flaw_board)
  Flaw : Fun K "law" "law" slaw A.flaw A.dlaw
  Blaw : Binds K A.dlaw ["_law_script"] []
  mlaw : mg "law" = some (.ref A.flaw)
  mDuelError : mg "DuelError" = some (.ref A.cDuelError)
  mNoRule : mg "NoRule" = some (.ref A.cNoRule)
  mNoBoard : mg "NoBoard" = some (.ref A.cNoBoard)
  mNoHand : mg "NoHand" = some (.ref A.cNoHand)
  mRule : mg "Rule" = some (.ref A.cRule)
  mSwaps : mg "Swaps" = some (.ref A.cSwaps)
  mTurned : mg "Turned" = some (.ref A.cTurned)
  clSwaps : Cls K A.cSwaps
  coSwaps : ClsO K A.cSwaps
  mkSwaps : Mk K A.cSwaps A.fSwaps___init__
  nSwaps_signs : NoAttr K A.cSwaps "signs"
  nSwaps_swaps : NoAttr K A.cSwaps "swaps"
  hSwaps_good_signs : Meth K A.cSwaps "good_signs" A.fSwaps_good_signs
  hSwaps_is_row : Meth K A.cSwaps "is_row" A.fSwaps_is_row
  hSwaps_is_swap : Meth K A.cSwaps "is_swap" A.fSwaps_is_swap
  hSwaps_good_swaps : Meth K A.cSwaps "good_swaps" A.fSwaps_good_swaps
  hSwaps_is_board : Meth K A.cSwaps "is_board" A.fSwaps_is_board
  hSwaps_weight : Meth K A.cSwaps "weight" A.fSwaps_weight
  hSwaps_changed : Meth K A.cSwaps "changed" A.fSwaps_changed
  hSwaps_moves : Meth K A.cSwaps "moves" A.fRule_moves
  iSwaps_Rule : PySem.W.kitOne K (.ref A.cSwaps) (.ref A.cRule) = some true
  iSwaps_Swaps : PySem.W.kitOne K (.ref A.cSwaps) (.ref A.cSwaps) = some true
  iSwaps_Turned : PySem.W.kitOne K (.ref A.cSwaps) (.ref A.cTurned) = some false
  clTurned : Cls K A.cTurned
  coTurned : ClsO K A.cTurned
  mkTurned : Mk K A.cTurned A.fTurned___init__
  nTurned_inner : NoAttr K A.cTurned "inner"
  hTurned_is_board : Meth K A.cTurned "is_board" A.fTurned_is_board
  hTurned_changed : Meth K A.cTurned "changed" A.fTurned_changed
  hTurned_moves : Meth K A.cTurned "moves" A.fRule_moves
  iTurned_Rule : PySem.W.kitOne K (.ref A.cTurned) (.ref A.cRule) = some true
  iTurned_Swaps : PySem.W.kitOne K (.ref A.cTurned) (.ref A.cSwaps) = some false
  iTurned_Turned : PySem.W.kitOne K (.ref A.cTurned) (.ref A.cTurned) = some true
  i_int_Rule : PySem.W.kitOne K (.type "int") (.ref A.cRule) = some false
  i_str_Rule : PySem.W.kitOne K (.type "str") (.ref A.cRule) = some false
  i_NoneType_Rule : PySem.W.kitOne K (.type "NoneType") (.ref A.cRule) = some false
  i_bool_Rule : PySem.W.kitOne K (.type "bool") (.ref A.cRule) = some false
  i_list_Rule : PySem.W.kitOne K (.type "list") (.ref A.cRule) = some false
  i_tuple_Rule : PySem.W.kitOne K (.type "tuple") (.ref A.cRule) = some false
  i_dict_Rule : PySem.W.kitOne K (.type "dict") (.ref A.cRule) = some false
  i_int_Swaps : PySem.W.kitOne K (.type "int") (.ref A.cSwaps) = some false
  i_str_Swaps : PySem.W.kitOne K (.type "str") (.ref A.cSwaps) = some false
  i_NoneType_Swaps : PySem.W.kitOne K (.type "NoneType") (.ref A.cSwaps) = some false
  i_bool_Swaps : PySem.W.kitOne K (.type "bool") (.ref A.cSwaps) = some false
  i_list_Swaps : PySem.W.kitOne K (.type "list") (.ref A.cSwaps) = some false
  i_tuple_Swaps : PySem.W.kitOne K (.type "tuple") (.ref A.cSwaps) = some false
  i_dict_Swaps : PySem.W.kitOne K (.type "dict") (.ref A.cSwaps) = some false
  i_int_Turned : PySem.W.kitOne K (.type "int") (.ref A.cTurned) = some false
  i_str_Turned : PySem.W.kitOne K (.type "str") (.ref A.cTurned) = some false
  i_NoneType_Turned : PySem.W.kitOne K (.type "NoneType") (.ref A.cTurned) = some false
  i_bool_Turned : PySem.W.kitOne K (.type "bool") (.ref A.cTurned) = some false
  i_list_Turned : PySem.W.kitOne K (.type "list") (.ref A.cTurned) = some false
  i_tuple_Turned : PySem.W.kitOne K (.type "tuple") (.ref A.cTurned) = some false
  i_dict_Turned : PySem.W.kitOne K (.type "dict") (.ref A.cTurned) = some false
  yDuelError_DuelError : PySem.W.exmOne K (.ref A.cDuelError) (.ref A.cDuelError) = some true
  wDuelError_DuelError : PySem.W.kitOne K (.ref A.cDuelError) (.ref A.cDuelError) = some true
  yDuelError_NoRule : PySem.W.exmOne K (.ref A.cDuelError) (.ref A.cNoRule) = some false
  wDuelError_NoRule : PySem.W.kitOne K (.ref A.cDuelError) (.ref A.cNoRule) = some false
  yDuelError_NoBoard : PySem.W.exmOne K (.ref A.cDuelError) (.ref A.cNoBoard) = some false
  wDuelError_NoBoard : PySem.W.kitOne K (.ref A.cDuelError) (.ref A.cNoBoard) = some false
  yDuelError_NoHand : PySem.W.exmOne K (.ref A.cDuelError) (.ref A.cNoHand) = some false
  wDuelError_NoHand : PySem.W.kitOne K (.ref A.cDuelError) (.ref A.cNoHand) = some false
  vDuelError : PySem.W.kitOne K (.ref A.cDuelError) (.type "ValueError") = some true
  xNoRule : ExcF K A.cNoRule
  yNoRule_DuelError : PySem.W.exmOne K (.ref A.cNoRule) (.ref A.cDuelError) = some true
  wNoRule_DuelError : PySem.W.kitOne K (.ref A.cNoRule) (.ref A.cDuelError) = some true
  yNoRule_NoRule : PySem.W.exmOne K (.ref A.cNoRule) (.ref A.cNoRule) = some true
  wNoRule_NoRule : PySem.W.kitOne K (.ref A.cNoRule) (.ref A.cNoRule) = some true
  yNoRule_NoBoard : PySem.W.exmOne K (.ref A.cNoRule) (.ref A.cNoBoard) = some false
  wNoRule_NoBoard : PySem.W.kitOne K (.ref A.cNoRule) (.ref A.cNoBoard) = some false
  yNoRule_NoHand : PySem.W.exmOne K (.ref A.cNoRule) (.ref A.cNoHand) = some false
  wNoRule_NoHand : PySem.W.kitOne K (.ref A.cNoRule) (.ref A.cNoHand) = some false
  vNoRule : PySem.W.kitOne K (.ref A.cNoRule) (.type "ValueError") = some true
  xNoBoard : ExcF K A.cNoBoard
  yNoBoard_DuelError : PySem.W.exmOne K (.ref A.cNoBoard) (.ref A.cDuelError) = some true
  wNoBoard_DuelError : PySem.W.kitOne K (.ref A.cNoBoard) (.ref A.cDuelError) = some true
  yNoBoard_NoRule : PySem.W.exmOne K (.ref A.cNoBoard) (.ref A.cNoRule) = some false
  wNoBoard_NoRule : PySem.W.kitOne K (.ref A.cNoBoard) (.ref A.cNoRule) = some false
  yNoBoard_NoBoard : PySem.W.exmOne K (.ref A.cNoBoard) (.ref A.cNoBoard) = some true
  wNoBoard_NoBoard : PySem.W.kitOne K (.ref A.cNoBoard) (.ref A.cNoBoard) = some true
  yNoBoard_NoHand : PySem.W.exmOne K (.ref A.cNoBoard) (.ref A.cNoHand) = some false
  wNoBoard_NoHand : PySem.W.kitOne K (.ref A.cNoBoard) (.ref A.cNoHand) = some false
  vNoBoard : PySem.W.kitOne K (.ref A.cNoBoard) (.type "ValueError") = some true
  xNoHand : ExcF K A.cNoHand
  yNoHand_DuelError : PySem.W.exmOne K (.ref A.cNoHand) (.ref A.cDuelError) = some true
  wNoHand_DuelError : PySem.W.kitOne K (.ref A.cNoHand) (.ref A.cDuelError) = some true
  yNoHand_NoRule : PySem.W.exmOne K (.ref A.cNoHand) (.ref A.cNoRule) = some false
  wNoHand_NoRule : PySem.W.kitOne K (.ref A.cNoHand) (.ref A.cNoRule) = some false
  yNoHand_NoBoard : PySem.W.exmOne K (.ref A.cNoHand) (.ref A.cNoBoard) = some false
  wNoHand_NoBoard : PySem.W.kitOne K (.ref A.cNoHand) (.ref A.cNoBoard) = some false
  yNoHand_NoHand : PySem.W.exmOne K (.ref A.cNoHand) (.ref A.cNoHand) = some true
  wNoHand_NoHand : PySem.W.kitOne K (.ref A.cNoHand) (.ref A.cNoHand) = some true
  vNoHand : PySem.W.kitOne K (.ref A.cNoHand) (.type "ValueError") = some true
  z_all : mg "all" = none
  z_bool : mg "bool" = none
  z_dict : mg "dict" = none
  z_int : mg "int" = none
  z_isinstance : mg "isinstance" = none
  z_len : mg "len" = none
  z_list : mg "list" = none
  z_ord : mg "ord" = none
  z_range : mg "range" = none
  z_set : mg "set" = none
  z_sorted : mg "sorted" = none
  z_str : mg "str" = none
  z_sum : mg "sum" = none
  z_tuple : mg "tuple" = none
  kFIRST : ∃ t, mg "FIRST" = some (.str "!" t)
  kLAST : ∃ t, mg "LAST" = some (.str "~" t)
  kMOST_SIGNS : ∃ t, mg "MOST_SIGNS" = some (.int 8 t)
  kMOST_WEIGHT : ∃ t, mg "MOST_WEIGHT" = some (.int 9 t)
  kMOST_SWAPS : ∃ t, mg "MOST_SWAPS" = some (.int 8 t)
  kLONGEST_SWAP : ∃ t, mg "LONGEST_SWAP" = some (.int 4 t)
  kLONGEST_BOARD : ∃ t, mg "LONGEST_BOARD" = some (.int 10 t)
  kHANDS : mg "HANDS" = some (.ref A.aHANDS)
  lHANDS : ∃ dd n sl its, K.lookup A.aHANDS = some ⟨.type "tuple", dd, .seq its n, sl⟩ ∧ its.size = 2 ∧ Vals [V.str "up", V.str "down"] its.toList
end K71
namespace K71
open PySem L2
section
variable {P : Program} {w : World} {K : PySem.W.Frag} {mg : Str → Option Value} {base : Heap} {A : Ad}
theorem ok_is_number (T : Txt K mg A) : FnOk P w K mg base CX0 1 A.fis_number A.dis_number ["thing", "least", "most"] (spNum K) := by
  refine T.Fis_number.ok scis_number (fun vs H Q E h => ?_) (fun cdv Ar outer s H vs Q E hr h => ?_)
  · obtain ⟨v, lo, hi, rfl, _⟩ := h
    rfl
  · obtain ⟨v, lo, hi, rfl, hv, k⟩ := h
    refine ⟨_, (pss_one (ps_ret (pe_and (pe_callB call_isi (by rfl) T.z_isinstance boot_isi (pa_cons (pv 0) (pa_cons (pe_gT (n := "int") T.z_int) pa_nil))) (pe_and (pe_not (pe_callB call_isi (by rfl) T.z_isinstance boot_isi (pa_cons (pv 0) (pa_cons (pe_gT (n := "bool") T.z_bool) pa_nil)))) (pe_one (pe_chain op_le op_le (pv 1) (pv 0) (pv 2))))))), ?_⟩
    rcases hv with ⟨i, rfl⟩ | ⟨b, rfl⟩ | ⟨t, ty, kt⟩
    · refine ⟨_, rfl, _, _, _, _, true, rfl, .ty "int", .base (.int i), kit_ty (by decide +kernel), true, rfl, ?_⟩
      refine iteT ⟨_, rfl, _, _, _, _, false, rfl, .ty "bool", .base (.int i), kit_ty (by decide +kernel), false, rfl, true, rfl, iteT ?_⟩
      refine ⟨_, rfl, _, rfl, _, _, rfl, rfl, _, rfl, ?_⟩
      show if decide (lo ≤ i) = true then _ else _
      cases h1 : decide (lo ≤ i) with
      | true =>
        refine iteT ⟨_, rfl, i, hi, rfl, rfl, ?_⟩
        simpa [numOk, h1] using k
      | false =>
        refine iteF ?_
        simpa [numOk, h1] using k
    · refine ⟨_, rfl, _, _, _, _, true, rfl, .ty "int", .base (.bl b), kit_ty (by decide +kernel), true, rfl, ?_⟩
      exact iteT ⟨_, rfl, _, _, _, _, true, rfl, .ty "bool", .base (.bl b), kit_ty (by decide +kernel), true, rfl, false, rfl, iteF k⟩
    · refine ⟨_, rfl, _, _, _, _, false, rfl, .ty "int", ty, kt, false, rfl, ?_⟩
      refine iteF ?_
      have : numOk v lo hi = false := by
        cases v <;> first | rfl | exact (IsNot.int ⟨t, ty, kt⟩).elim
      rw [this] at k
      exact k
theorem ok_moves (T : Txt K mg A) {C fB fC : Addr} {fdB fdC : FuncData} {O : Hp → Addr → Prop} {good : V → Bool} {chg : Bool → Str → List Str} (cl : Cls K C)
    (hB : Meth K C "is_board" fB) (GB : FnOk P w K mg base CX0 4 fB fdB ["self", "board"] (spIsB K O good)) (bB : Binds K fdB ["self", "board"] [])
    (hC : Meth K C "changed" fC) (GC : FnOk P w K mg base CX0 4 fC fdC ["self", "board", "hand"] (spChg O good chg)) (bC : Binds K fdC ["self", "board", "hand"] [])
    (hO : ∀ H p, O H p → ∃ dx fs, H p = some (.ins C dx fs) ∧ fs.lookup ("is_board" : Str) = none ∧ fs.lookup ("changed" : Str) = none) (hS : ∀ H H' p, O H p → Same H H' → O H' p)
    (hg : ∀ v, good v = true → ∃ z, v = .str z) (hl : ∀ u z, good (.str z) = true → (chg u z).length < 64) :
    FnOk P w K mg base (L2.CX P w) 5 A.fRule_moves A.dRule_moves ["self", "board", "hand"] (spMoves K O good chg (.ref A.cNoBoard) (.ref A.cNoHand)) := by
  refine T.FRule_moves.okX scRule_moves (fun vs H Q E h => ?_) (fun cdv Ar outer s H vs Q E hr h => ?_)
  · obtain ⟨p, v, h, rfl, _⟩ := h
    rfl
  · obtain ⟨p, v, h, rfl, hOp, hv, hh, kB, kH, kQ⟩ := h
    refine ⟨_, (pss_cons (ps_if (pt_not (pt_val (pe_meth (pv 0) cl hB GB (hr.mono (by decide)) bB .nil pass0 (pa_cons (pv 1) pa_nil)))) (pss_one (ps_raise rfl (takes_of rfl rfl rfl rfl) (pmk_F T.xNoBoard T.mNoBoard))) pss_nil)
      (pss_cons (ps_if (PW.pt (pw_or (pt_not (pt_val (pe_callB call_isi (by rfl) T.z_isinstance boot_isi (pa_cons (pv 2) (pa_cons (pe_gT (n := "str") T.z_str) pa_nil))))) (pw_or1 (pt_cmpR op_notIn_seq (pv 2) (pe_gR T.kHANDS) (by rfl))))) (pss_one (ps_raise rfl (takes_of rfl rfl rfl rfl) (pmk_F T.xNoHand T.mNoHand))) pss_nil)
      (pss_one (ps_ret (pe_callB (SG.cr_sortS rfl) (by rfl) T.z_sorted (by decide +kernel) (pa_cons (pe_callTy (SG.cr_setL rfl) (by rfl) T.z_set (by decide +kernel) (pa_cons (pe_meth (pv 0) cl hC GC (hr.mono (by decide)) bC .nil pass0 (pa_cons (pv 1) (pa_cons (pv 2) pa_nil))) pa_nil)) pa_nil)))))), ?_⟩
    obtain ⟨dx, fs, hp, n1, n2⟩ := hO H p hOp
    refine ⟨_, rfl, p, dx, fs, rfl, hp, n1, _, rfl, p, v, rfl, hOp, hv, fun H1 e1 => ?_⟩
    refine ⟨_, rfl, ?_⟩
    cases hgv : good v with
    | false => exact kB hgv H1 e1
    | true =>
      obtain ⟨z, rfl⟩ := hg v hgv
      refine iteF ?_
      rcases hh with ⟨t, rfl⟩ | ⟨t, ty, kt⟩
      · refine ⟨_, rfl, _, _, _, _, true, rfl, .ty "str", .base (.str t), kit_ty (by decide +kernel), true, rfl, ?_⟩
        refine iteF ⟨_, rfl, A.aHANDS, _, rfl, .inr (sqT_K T.lHANDS), rfl, rfl, _, rfl, ?_⟩
        show if (!inV (.str t) [.str "up", .str "down"]) = true then _ else _
        cases hin : inV (.str t) [.str "up", .str "down"] with
        | false =>
          refine iteT (kH hgv (fun u z => ?_) H1 e1)
          cases z
          rw [(inV_hands _).mpr ⟨u, rfl⟩] at hin
          cases hin
        | true =>
          obtain ⟨u, rfl⟩ := (inV_hands t).mp hin
          refine iteF ?_
          obtain ⟨dx1, fs1, hp1, _, n3⟩ := hO H1 p (hS _ _ _ hOp e1)
          refine ⟨_, rfl, p, dx1, fs1, rfl, hp1, n3, _, rfl, _, rfl, p, z, u, rfl, hS _ _ _ hOp e1, hgv, fun H2 f e2 hf hf2 => ?_⟩
          have hlen := hl u z hgv
          refine ⟨f, (chg u z).map Sum.inr, rfl, by rw [inr_map]; exact SqL.of hf2, by rw [List.length_map]; exact hlen, fun q ks hq nd hm hkl => ?_⟩
          refine ⟨q, ks, rfl, upd_same, fun k hk => ?_, ?_, fun ys r hs hp hr => ?_⟩
          · obtain ⟨x, _, e⟩ := List.mem_map.mp ((hm k).mp hk)
            exact ⟨x, e.symm⟩
          · rw [List.length_map] at hkl
            omega
          · have e3 : Same H (upd H2 q (SG.SetO P w q ks)) := (e1.trans e2).trans (Same.new hq)
            exact kQ z u rfl hgv rfl _ r ys (e3.trans (Same.new hr)) (e3.free hr) (sortedOf_of hs hp nd hm) upd_same
      · refine ⟨_, rfl, _, _, _, _, false, rfl, .ty "str", e1.ty ty, kt, false, rfl, ?_⟩
        exact kH hgv (fun u z => by subst z; exact IsNot.str ⟨t, ty, kt⟩) H1 e1
theorem ok_tur_init (T : Txt K mg A) : FnOk P w K mg base (L2.CX P w) 1 A.fTurned___init__ A.dTurned___init__ ["self", "rule"] (spTurInit K A.cTurned A.cRule (.ref A.cNoRule)) := by
  refine T.FTurned___init__.okX scTurned___init__ (fun vs H Q E h => ?_) (fun cdv Ar outer s H vs Q E hr h => ?_)
  · obtain ⟨p, dx, v, t, b, rfl, _⟩ := h
    rfl
  · obtain ⟨p, dx, v, t, b, rfl, hp, ty, kt, kQ, kE⟩ := h
    refine ⟨_, (pss_cons (ps_if (pt_not (pt_val (pe_callB call_isi (by rfl) T.z_isinstance boot_isi (pa_cons (pv 1) (pa_cons (pe_gR T.mRule) pa_nil))))) (pss_one (ps_raise rfl (takes_of rfl rfl rfl rfl) (pmk_F T.xNoRule T.mNoRule))) pss_nil)
      (pss_one (ps_fld (pv 0) (pv 1) rfl))), ?_⟩
    refine ⟨_, rfl, _, _, _, _, b, rfl, .own A.cRule, ty, kt, b, rfl, ?_⟩
    cases b with
    | false => exact kE rfl
    | true => exact ⟨_, rfl, _, rfl, p, A.cTurned, dx, [], rfl, hp, T.clTurned, T.nTurned_inner, (by show 0 < 1000; decide), kQ rfl⟩
theorem ok_next (T : Txt K mg A) : FnOk P w K mg base CX0 1 A.flaw_next A.dlaw_next ["_law_state_here", "_law_many"] spLawNext := by
  refine T.Flaw_next.ok sclaw_next (fun vs H Q E h => ?_) (fun cdv Ar outer s H vs Q E hr h => ?_)
  · obtain ⟨a, s, m, rfl, _⟩ := h
    rfl
  · obtain ⟨a, x, m, rfl, ha, h0, h1, hm, k⟩ := h
    refine ⟨_, (pss_cons (ps_asg (pe_op op_mod (pe_op op_add (pe_op op_mul (pe_ix ix_list (pv 0) pe_int (fun _ _ => rfl)) pe_int) pe_int) pe_int) (pg_sub (pv 0) pe_int set_list))
      (pss_one (ps_ret (pe_op op_mod (pe_op op_fdiv (pe_ix ix_list (pv 0) pe_int (fun _ _ => rfl)) pe_int) (pv 1))))), ?_⟩
    refine ⟨_, rfl, a, _, _, _, rfl, rfl, SqL.of ha, rfl, _, _, rfl, rfl, .inl ⟨by omega, by omega⟩, _, _, rfl, rfl, _, _, rfl, rfl, (by show (0 : Int) < 2147483647; decide), ?_⟩
    refine ⟨_, rfl, a, _, _, 0, rfl, rfl, ha, rfl, ?_⟩
    refine ⟨_, rfl, a, _, _, _, rfl, rfl, SqL.of upd_same, rfl, _, _, rfl, rfl, ⟨by decide, by decide⟩, _, rfl, _, _, rfl, rfl, by omega, ?_⟩
    exact k _ _ (Int.emod_nonneg _ (by decide)) (Int.lt_trans (Int.emod_lt_of_pos _ (by decide)) (by decide)) (Int.emod_nonneg _ (by omega)) (Int.emod_lt_of_pos _ (by omega))
theorem ok_cell (T : Txt K mg A) : FnOk P w K mg base CX0 1 A.flaw_cell A.dlaw_cell ["_law_script", "_law_k"] (spLawCell K) := by
  refine T.Flaw_cell.ok sclaw_cell (fun vs H Q E h => ?_) (fun cdv Ar outer s H vs Q E hr h => ?_)
  · obtain ⟨a, k, ns, rfl, _⟩ := h
    rfl
  · obtain ⟨a, k, ns, rfl, ha, h0, _, kQ⟩ := h
    refine ⟨_, (pss_cons (ps_if (pt_cmpR op_lt (pv 1) (pe_callB call_len_seq (by rfl) T.z_len PySem.boot_len (pa_cons (pv 0) pa_nil)) (nomark _)) (pss_one (ps_ret (pe_ix ix_list (pv 0) (pv 1) (fun _ _ => rfl)))) pss_nil)
      (pss_one (ps_ret pe_int))), ?_⟩
    refine ⟨_, rfl, _, rfl, a, _, rfl, .inl ha, _, _, rfl, rfl, _, rfl, ?_⟩
    by_cases hk : k < (ns.length : Int)
    · have e : decide (k < ((ns.map V.int).length : Int)) = true := by rw [List.length_map]; exact decide_eq_true hk
      show if decide (k < ((ns.map V.int).length : Int)) = true then _ else _
      rw [e]
      have hg : (ns.map V.int)[k.toNat]? = some (.int (ns.getD k.toNat 0)) := by
        rw [List.getElem?_map, List.getD_eq_getElem?_getD, List.getElem?_eq_getElem (by omega)]
        rfl
      refine iteT ⟨_, rfl, _, rfl, a, _, _, _, rfl, rfl, ha, at_of (by omega) hg, kQ⟩
    · have e : decide (k < ((ns.map V.int).length : Int)) = false := by rw [List.length_map]; exact decide_eq_false hk
      show if decide (k < ((ns.map V.int).length : Int)) = true then _ else _
      rw [e]
      refine iteF ?_
      rw [List.getD_eq_getElem?_getD, List.getElem?_eq_none (by omega)] at kQ
      exact kQ
theorem ok_state (T : Txt K mg A) : FnOk P w K mg base CX0 1 A.flaw_state A.dlaw_state ["_law_cell_here", "_law_k"] spLawState := by
  refine T.Flaw_state.ok sclaw_state (fun vs H Q E h => ?_) (fun cdv Ar outer s H vs Q E hr h => ?_)
  · obtain ⟨c, k, rfl, _⟩ := h
    rfl
  · obtain ⟨c, k, rfl, h0, h63, kQ⟩ := h
    refine ⟨_, (pss_cons (ps_set (i := 2) sclaw_state.nd rfl (Or.inl rfl) (pe_op op_mod (pe_op op_add (pe_op op_add (pe_op op_mul (pv 0) pe_int) (pe_op op_mul (pv 1) pe_int)) pe_int) pe_int))
      (pss_one (ps_ret (pe_lst (pa_cons (pe_op op_add pe_int (pe_op op_mod (pe_op op_add (pe_op op_mul (pv 2) (pv 2)) (pe_op op_mul pe_int (pv 1))) pe_int)) pa_nil))))), ?_⟩
    refine ⟨_, rfl, _, _, rfl, rfl, .inr ⟨by decide, by decide⟩, _, rfl, _, _, rfl, rfl, .inr ⟨by decide, by decide⟩, _, _, rfl, rfl, _, _, rfl, rfl, _, _, rfl, rfl, (by show (0 : Int) < 2147483647; decide), ?_⟩
    have m0 := Int.emod_nonneg (c * 48271 + k * 104729 + 7919) (show (2147483647 : Int) ≠ 0 by decide)
    have m1 := Int.emod_lt_of_pos (c * 48271 + k * 104729 + 7919) (show (0 : Int) < 2147483647 by decide)
    refine ⟨_, rfl, _, rfl, _, _, rfl, rfl, .inl ⟨by omega, by omega⟩, _, rfl, _, _, rfl, rfl, .inl ⟨by decide, by decide⟩, _, _, rfl, rfl, _, _, rfl, rfl, (by show (0 : Int) < 2147483629; decide), _, _, rfl, rfl, ?_⟩
    refine ⟨by show 1 ≤ sizeLine; decide, fun l hl => ?_⟩
    refine kQ _ l ?_ ?_ hl
    · have := Int.emod_nonneg ((c * 48271 + k * 104729 + 7919) % 2147483647 * ((c * 48271 + k * 104729 + 7919) % 2147483647) + 69621 * k) (show (2147483629 : Int) ≠ 0 by decide)
      omega
    · have := Int.emod_lt_of_pos ((c * 48271 + k * 104729 + 7919) % 2147483647 * ((c * 48271 + k * 104729 + 7919) % 2147483647) + 69621 * k) (show (0 : Int) < 2147483629 by decide)
      omega
theorem ok_told (T : Txt K mg A) {C fM : Addr} {fdM : FuncData} {O : Hp → Addr → Prop} {good : V → Bool} {chg : Bool → Str → List Str} (cl : Cls K C) (hM : Meth K C "moves" fM)
    (GM : FnOk P w K mg base (L2.CX P w) 5 fM fdM ["self", "board", "hand"] (spMoves K O good chg (.ref A.cNoBoard) (.ref A.cNoHand))) (bM : Binds K fdM ["self", "board", "hand"] [])
    (hO : ∀ H p, O H p → ∃ dx fs, H p = some (.ins C dx fs) ∧ fs.lookup ("moves" : Str) = none) :
    FnOk P w K mg base CX0 6 A.flaw_told A.dlaw_told ["_law_rule", "_law_board_here", "_law_hand"] (spLawTold K O good chg) := by
  refine T.Flaw_told.ok sclaw_told (fun vs H Q E h => ?_) (fun cdv Ar outer s H vs Q E hr h => ?_)
  · obtain ⟨p, v, h, rfl, _⟩ := h
    rfl
  · obtain ⟨p, v, h, rfl, hOp, hv, hh, kB, kH, kQ⟩ := h
    refine ⟨_, (pss_cons (ps_set (i := 3) sclaw_told.nd rfl (Or.inl rfl) pe_non)
      (pss_cons (ps_set (i := 4) sclaw_told.nd rfl (Or.inl rfl) pe_non)
      (pss_cons (ps_try_keep (i := 5) (j := 3) (c := .ref A.cDuelError) rfl rfl sclaw_told.nd rfl rfl rfl rfl rfl ⟨rfl, by decide, Or.inl T.mDuelError⟩ takes0 (by show 5 < 6; decide)
        (fun W pn xe tk po => (pss_one (ps_set (i := 4) sclaw_told.nd rfl (Or.inl rfl) (pe_methW (pv 0) cl hM GM (hr.mono (by decide)) bM (fun σ => passAt tk σ) (pa_cons (pv 1) (pa_cons (pv 2) pa_nil)))))))
      (pss_cons (ps_if (pt_cmpR op_isN (pv 3) pe_non (nomark _)) (pss_one (ps_ret (pv 4))) pss_nil)
      (pss_cons (ps_if (pt_cmpR op_eq (pe_callB call_isH (by rfl) T.z_isinstance boot_isi (pa_cons (pv 3) (pa_cons (pe_gR T.mNoBoard) pa_nil))) (pe_callB call_isH (by rfl) T.z_isinstance boot_isi (pa_cons (pv 3) (pa_cons (pe_gR T.mNoHand) pa_nil))) (nomark _)) (pss_one (ps_ret pe_str)) pss_nil)
      (pss_one (ps_ret (pe_ix ix_list (pe_lst (pa_cons pe_str (pa_cons pe_str pa_nil))) (pe_callTy call_int1 (by rfl) T.z_int (by decide +kernel) (pa_cons (pe_callB call_isH (by rfl) T.z_isinstance boot_isi (pa_cons (pv 3) (pa_cons (pe_gR T.mNoHand) pa_nil))) pa_nil)) (fun _ _ => rfl))))))))), ?_⟩
    obtain ⟨dx, fs, hp, n1⟩ := hO H p hOp
    refine ⟨_, rfl, p, dx, fs, rfl, hp, n1, _, rfl, _, rfl, p, v, h, rfl, hOp, hv, hh, fun hg H1 e1 => ?_, fun hg hn H1 e1 => ?_, fun z u ev hg eh H1 l ys e1 hl so hl1 => ?_⟩
    · refine ⟨true, T.yNoBoard_DuelError, fun _ => ⟨rfl, fun a ha => ?_⟩, fun q => nomatch q⟩
      have e2 : Same H (upd H1 a (ExH (.ref A.cNoBoard) a)) := e1.trans (Same.new ha)
      refine ⟨_, rfl, rfl, _, rfl, ?_⟩
      refine iteF ⟨_, rfl, a, A.cNoBoard, _, _, true, rfl, upd_same, T.xNoBoard.c, fun _ q => q, T.wNoBoard_NoBoard, _, rfl, a, A.cNoBoard, _, _, false, rfl, upd_same, T.xNoBoard.c, fun _ q => q, T.wNoBoard_NoHand, rfl, _, rfl, ?_⟩
      refine iteF ⟨by show 2 ≤ sizeLine; decide, fun l hl => ⟨_, rfl, a, A.cNoBoard, _, _, false, rfl, (by rw [upd_ne (ne_of_none upd_same hl)]; exact upd_same), T.xNoBoard.c, fun _ q => q, T.wNoBoard_NoHand, .inr ⟨_, rfl, ?_⟩⟩⟩
      exact ⟨l, _, _, _, rfl, rfl, SqL.of upd_same, rfl, kB hg _ (e2.trans (Same.new hl))⟩
    · refine ⟨true, T.yNoHand_DuelError, fun _ => ⟨rfl, fun a ha => ?_⟩, fun q => nomatch q⟩
      have e2 : Same H (upd H1 a (ExH (.ref A.cNoHand) a)) := e1.trans (Same.new ha)
      refine ⟨_, rfl, rfl, _, rfl, ?_⟩
      refine iteF ⟨_, rfl, a, A.cNoHand, _, _, false, rfl, upd_same, T.xNoHand.c, fun _ q => q, T.wNoHand_NoBoard, _, rfl, a, A.cNoHand, _, _, true, rfl, upd_same, T.xNoHand.c, fun _ q => q, T.wNoHand_NoHand, rfl, _, rfl, ?_⟩
      refine iteF ⟨by show 2 ≤ sizeLine; decide, fun l hl => ⟨_, rfl, a, A.cNoHand, _, _, true, rfl, (by rw [upd_ne (ne_of_none upd_same hl)]; exact upd_same), T.xNoHand.c, fun _ q => q, T.wNoHand_NoHand, .inr ⟨_, rfl, ?_⟩⟩⟩
      exact ⟨l, _, _, _, rfl, rfl, SqL.of upd_same, rfl, kH hg hn _ (e2.trans (Same.new hl))⟩
    · refine ⟨_, rfl, rfl, _, rfl, ?_⟩
      exact iteT ⟨_, rfl, kQ z u ev hg eh H1 l ys e1 hl so hl1⟩
end
end K71
namespace K71
open PySem L2
section
variable {P : Program} {w : World} {K : PySem.W.Frag} {mg : Str → Option Value} {base : Heap} {A : Ad}
theorem ok_tur_is_board (T : Txt K mg A) {C fB : Addr} {fdB : FuncData} {O : Hp → Addr → Prop} {good : V → Bool} {k : Nat} (cl : Cls K C)
    (hB : Meth K C "is_board" fB) (GB : FnOk P w K mg base CX0 k fB fdB ["self", "board"] (spIsB K O good)) (bB : Binds K fdB ["self", "board"] [])
    (hO : ∀ H p, O H p → ∃ dx fs, H p = some (.ins C dx fs) ∧ fs.lookup ("is_board" : Str) = none) :
    FnOk P w K mg base CX0 (k + 1) A.fTurned_is_board A.dTurned_is_board ["self", "board"] (spIsB K (TurAt A.cTurned O) good) := by
  refine T.FTurned_is_board.ok scTurned_is_board (fun vs H Q E h => ?_) (fun cdv Ar outer s H vs Q E hr h => ?_)
  · obtain ⟨p, v, rfl, _⟩ := h
    rfl
  · obtain ⟨p, v, rfl, hp, hv, kQ⟩ := h
    refine ⟨_, (pss_one (ps_ret (pe_meth (pe_fld (pv 0) rfl) cl hB GB (hr.mono (by omega)) bB .nil pass0 (pa_cons (pv 1) pa_nil)))), ?_⟩
    obtain ⟨dx, q, h1, hq⟩ := id hp
    obtain ⟨dy, fs, h2, h3⟩ := hO _ _ hq
    exact ⟨_, rfl, p, A.cTurned, dx, _, _, rfl, h1, T.clTurned, T.nTurned_inner, rfl, q, dy, fs, rfl, h2, h3, _, rfl, q, v, rfl, hq, hv, fun H' e => kQ H' e⟩
theorem ok_tur_changed (T : Txt K mg A) {C fC : Addr} {fdC : FuncData} {O : Hp → Addr → Prop} {good : V → Bool} {chg : Bool → Str → List Str} {k : Nat} (cl : Cls K C)
    (hC : Meth K C "changed" fC) (GC : FnOk P w K mg base CX0 k fC fdC ["self", "board", "hand"] (spChg O good chg)) (bC : Binds K fdC ["self", "board", "hand"] [])
    (hO : ∀ H p, O H p → ∃ dx fs, H p = some (.ins C dx fs) ∧ fs.lookup ("changed" : Str) = none) :
    FnOk P w K mg base CX0 (k + 1) A.fTurned_changed A.dTurned_changed ["self", "board", "hand"] (spChg (TurAt A.cTurned O) good fun u z => chg (!u) z) := by
  refine T.FTurned_changed.ok scTurned_changed (fun vs H Q E h => ?_) (fun cdv Ar outer s H vs Q E hr h => ?_)
  · obtain ⟨p, z, u, rfl, _⟩ := h
    rfl
  · obtain ⟨p, z, u, rfl, hp, hz, kQ⟩ := h
    refine ⟨_, (pss_one (ps_ret (pe_meth (pe_fld (pv 0) rfl) cl hC GC (hr.mono (by omega)) bC .nil pass0 (pa_cons (pv 1) (pa_cons (pe_ifExp (pt_cmpR op_eq (pv 2) pe_str (nomark _)) pe_str pe_str) pa_nil))))), ?_⟩
    obtain ⟨dx, q, h1, hq⟩ := id hp
    obtain ⟨dy, fs, h2, h3⟩ := hO _ _ hq
    refine ⟨_, rfl, p, A.cTurned, dx, _, _, rfl, h1, T.clTurned, T.nTurned_inner, rfl, q, dy, fs, rfl, h2, h3, _, rfl, _, rfl, rfl, _, rfl, ?_⟩
    cases u
    · exact ⟨q, z, true, rfl, hq, hz, kQ⟩
    · exact ⟨q, z, false, rfl, hq, hz, kQ⟩
theorem ok_row (T : Txt K mg A) : FnOk P w K mg base CX0 1 A.fSwaps_is_row A.dSwaps_is_row ["self", "thing", "longest"] (spRow K A.cSwaps) := by
  refine T.FSwaps_is_row.ok scSwaps_is_row (fun vs H Q E h => ?_) (fun cdv Ar outer s H vs Q E hr h => ?_)
  · obtain ⟨p, v, L, kvs, rfl, _⟩ := h
    rfl
  · obtain ⟨p, v, L, kvs, rfl, hp, hv, kQ⟩ := h
    refine ⟨_, (pss_one (ps_ret (pe_and (pe_callB call_isi (by rfl) T.z_isinstance boot_isi (pa_cons (pv 1) (pa_cons (pe_gT (n := "str") T.z_str) pa_nil))) (pe_and (pe_cmpR op_le (pe_callB call_len_str (by rfl) T.z_len PySem.boot_len (pa_cons (pv 1) pa_nil)) (pv 2) (nomark _)) (pe_one (pe_callB (cr_all rfl) (by rfl) T.z_all (by decide +kernel) (pa_cons (pe_lc (own := [("sign", 3)]) (g := gName 3) (tt := tYes) rfl scSwaps_is_row.nd (pi_str (pv 1)) (blkOk_by (N := ["self", "thing", "longest", "sign"]) (sc := defScope sSwaps_is_row) (by decide +kernel)) (fun _ _ _ _ _ => pg_name (i := 3) scSwaps_is_row.nd rfl (Or.inl rfl)) (fun _ _ _ _ _ => pts_nil) (fun _ _ _ _ _ => (pe_dinC (by exact hu_of hr) (pv 3) (pe_fldB (K := K) (pv 0) rfl rfl) (by rfl)))) pa_nil))))))), ?_⟩
    rcases id hv with ⟨z, rfl, hz⟩ | ⟨t, ty, kt⟩
    · refine ⟨_, rfl, _, _, _, _, true, rfl, .ty "str", .base (.str z), kit_ty (by decide +kernel), true, rfl, ?_⟩
      refine iteT ⟨_, rfl, z, rfl, Nat.le_trans hz (by decide), _, rfl, _, _, rfl, rfl, _, rfl, ?_⟩
      refine ite2 (fun hL => ?_) (fun hL => ?_)
      · have hL : z.length ≤ L := by have := of_decide_eq_true hL; omega
        refine ⟨_, rfl, z, rfl, fun M hM => lc_str (z := z) (fun i H' => Same H H' ∧ H' M = some (.lst (((z.cps.toList.take i).map (inS kvs)).map V.bl))) ⟨Same.new hM, by rw [upd_same]; simp⟩ ?_ ?_⟩
        · rintro i c H1 hc ⟨e, hl⟩
          obtain ⟨dx, d, fs, h1, h2, _⟩ := hp.same e
          refine ⟨rfl, _, rfl, _, rfl, p, A.cSwaps, dx, _, _, rfl, h1, T.clSwaps, T.nSwaps_signs, rfl, d, _, rfl, DGet.k (k := sgn c) h2, _, hl, ?_, e.mut hM, ?_⟩
          · rw [List.length_map, List.length_map, List.length_take, cps_len]
            exact small1000 (Nat.le_trans (Nat.min_le_right _ _) hz)
          · rw [upd_same, take_snoc (cps_at hc), List.map_append, List.map_append]
            rfl
        · rintro H1 ⟨e, hl⟩
          refine ⟨M, _, rfl, SqL.of hl, ?_⟩
          rw [cps_take, all_map_id]
          have : rowOk kvs L (.str z) = z.cps.toList.all (inS kvs) := by simp [rowOk, allIn, hL]
          rw [this] at kQ
          exact kQ H1 e
      · have : rowOk kvs L (.str z) = false := by
          have hL : ¬ z.length ≤ L := fun h => hL (decide_eq_true (by omega))
          simp [rowOk, hL]
        rw [this] at kQ
        exact kQ H (Same.refl H)
    · refine ⟨_, rfl, _, _, _, _, false, rfl, .ty "str", ty, kt, false, rfl, ?_⟩
      have : rowOk kvs L v = false := by cases v <;> first | rfl | exact (IsNot.str ⟨t, ty, kt⟩).elim
      rw [this] at kQ
      exact iteF (kQ H (Same.refl H))
theorem ok_weight (T : Txt K mg A) : FnOk P w K mg base CX0 1 A.fSwaps_weight A.dSwaps_weight ["self", "board"] (spWt A.cSwaps) := by
  refine T.FSwaps_weight.ok scSwaps_weight (fun vs H Q E h => ?_) (fun cdv Ar outer s H vs Q E hr h => ?_)
  · obtain ⟨p, z, kvs, rfl, _⟩ := h
    rfl
  · obtain ⟨p, z, kvs, rfl, hp, hs, hz, hzl, kQ⟩ := h
    refine ⟨_, (pss_one (ps_ret (pe_callB (cr_sum rfl) (by rfl) T.z_sum (by decide +kernel) (pa_cons (pe_lc (own := [("sign", 2)]) (g := gName 2) (tt := tYes) rfl scSwaps_weight.nd (pi_str (pv 1)) (blkOk_by (N := ["self", "board", "sign"]) (sc := defScope sSwaps_weight) (by decide +kernel)) (fun _ _ _ _ _ => pg_name (i := 2) scSwaps_weight.nd rfl (Or.inl rfl)) (fun _ _ _ _ _ => pts_nil) (fun _ _ _ _ _ => (pe_dget (by exact hu_of hr) (pe_fldB (K := K) (pv 0) rfl rfl) (pv 2) (fun _ _ => rfl)))) pa_nil)))), ?_⟩
    refine ⟨_, rfl, z, rfl, fun M hM => lc_str (z := z) (fun i H' => Same H H' ∧ H' M = some (.lst (((z.cps.toList.take i).map (wtC kvs)).map V.int))) ⟨Same.new hM, by rw [upd_same]; simp⟩ ?_ ?_⟩
    · rintro i c H1 hc ⟨e, hl⟩
      obtain ⟨dx, d, fs, h1, h2, _⟩ := hp.same e
      have hin := (hs.at (List.all_eq_true.mp hz c (List.mem_of_getElem? (cps_at hc)))).1
      refine ⟨rfl, _, rfl, p, A.cSwaps, dx, _, _, rfl, h1, T.clSwaps, T.nSwaps_signs, rfl, _, rfl, d, _, rfl, (by have g := DGet.k (k := sgn c) h2; rw [hin] at g; exact g), _, hl, ?_, e.mut hM, ?_⟩
      · rw [List.length_map, List.length_map, List.length_take, cps_len]
        exact small1000 (Nat.le_trans (Nat.min_le_right _ _) hzl)
      · rw [upd_same, take_snoc (cps_at hc), List.map_append, List.map_append]
        rfl
    · rintro H1 ⟨e, hl⟩
      refine ⟨M, _, rfl, SqL.of hl, ?_⟩
      rw [cps_take]
      exact kQ H1 e
end
end K71
namespace K71
open PySem L2
section
variable {P : Program} {w : World} {K : PySem.W.Frag} {mg : Str → Option Value} {base : Heap} {A : Ad}
theorem ok_is_swap (T : Txt K mg A) : FnOk P w K mg base CX0 2 A.fSwaps_is_swap A.dSwaps_is_swap ["self", "swap"] (spSwap A.cSwaps) := by
  have GSwaps_is_row : FnOk P w K mg base CX0 1 A.fSwaps_is_row A.dSwaps_is_row ["self", "thing", "longest"] (spRow K A.cSwaps) := ok_row T
  have GSwaps_weight : FnOk P w K mg base CX0 1 A.fSwaps_weight A.dSwaps_weight ["self", "board"] (spWt A.cSwaps) := ok_weight T
  refine T.FSwaps_is_swap.ok scSwaps_is_swap (fun vs H Q E h => ?_) (fun cdv Ar outer s H vs Q E hr h => ?_)
  · obtain ⟨p, a, pr, kvs, rfl, _⟩ := h
    rfl
  · obtain ⟨p, a, ⟨o, n⟩, kvs, rfl, hp, hs, ha, ho, hn, kQ⟩ := h
    refine ⟨_, (pss_cons (ps_if (PW.pt (pw_or (pt_not (pt_val (pe_callB call_isi (by rfl) T.z_isinstance boot_isi (pa_cons (pv 1) (pa_cons (pe_gT (n := "tuple") T.z_tuple) pa_nil))))) (pw_or1 (pt_cmpR op_ne (pe_callB call_len_seq (by rfl) T.z_len PySem.boot_len (pa_cons (pv 1) pa_nil)) pe_int (nomark _))))) (pss_one (ps_ret pe_bl)) pss_nil)
      (pss_cons (ps_if (PW.pt (pw_or (pt_not (pt_val (pe_meth (pv 0) T.clSwaps T.hSwaps_is_row GSwaps_is_row (hr.mono (by decide)) T.BSwaps_is_row .nil pass0 (pa_cons (pe_ix ix_tup (pv 1) pe_int (fun _ _ => rfl)) (pa_cons (pe_gI T.kLONGEST_SWAP) pa_nil))))) (pw_or1 (pt_not (pt_val (pe_meth (pv 0) T.clSwaps T.hSwaps_is_row GSwaps_is_row (hr.mono (by decide)) T.BSwaps_is_row .nil pass0 (pa_cons (pe_ix ix_tup (pv 1) pe_int (fun _ _ => rfl)) (pa_cons (pe_gI T.kLONGEST_SWAP) pa_nil)))))))) (pss_one (ps_ret pe_bl)) pss_nil)
      (pss_one (ps_ret (pe_and (pe_cmpR op_eq (pe_callB call_len_str (by rfl) T.z_len PySem.boot_len (pa_cons (pe_ix ix_tup (pv 1) pe_int (fun _ _ => rfl)) pa_nil)) (pe_callB call_len_str (by rfl) T.z_len PySem.boot_len (pa_cons (pe_ix ix_tup (pv 1) pe_int (fun _ _ => rfl)) pa_nil)) (nomark _)) (pe_one (pe_cmpR op_lt (pe_meth (pv 0) T.clSwaps T.hSwaps_weight GSwaps_weight (hr.mono (by decide)) T.BSwaps_weight .nil pass0 (pa_cons (pe_ix ix_tup (pv 1) pe_int (fun _ _ => rfl)) pa_nil)) (pe_meth (pv 0) T.clSwaps T.hSwaps_weight GSwaps_weight (hr.mono (by decide)) T.BSwaps_weight .nil pass0 (pa_cons (pe_ix ix_tup (pv 1) pe_int (fun _ _ => rfl)) pa_nil)) (nomark _)))))))), ?_⟩
    have ha : H a = some (.tup [.str o, .str n]) := ha
    refine ⟨_, rfl, _, _, _, _, true, rfl, .ty "tuple", .base (.tup ha), kit_ty (by decide +kernel), true, rfl, ?_⟩
    refine iteF ⟨_, rfl, a, _, rfl, .inr (SqT.of ha), rfl, _, rfl, ?_⟩
    refine iteF ?_
    obtain ⟨dx, fs, h1, no⟩ := hp.no
    refine ⟨_, rfl, p, dx, fs, rfl, h1, no _ (by decide) (by decide), _, rfl, a, [.str o, .str n], 0, _, rfl, rfl, SqT.of ha, rfl, p, .str o, 4, kvs, rfl, hp, .inl ⟨o, rfl, ho⟩, fun H1 e1 => ⟨_, rfl, ?_⟩⟩
    cases r1 : rowOk kvs 4 (.str o) with
    | false =>
      have : prOk kvs (o, n) = false := by show (rowOk kvs 4 (.str o) && _) = false; rw [r1]; rfl
      rw [this] at kQ
      exact iteT (iteT (kQ H1 e1))
    | true =>
    refine iteF ?_
    refine ⟨_, rfl, p, dx, fs, rfl, e1 _ _ h1, no _ (by decide) (by decide), _, rfl, a, [.str o, .str n], 1, _, rfl, rfl, SqT.of (e1 _ _ ha), rfl, p, .str n, 4, kvs, rfl, hp.same e1, .inl ⟨n, rfl, hn⟩, fun H2 e2 => ⟨_, rfl, ?_⟩⟩
    have e2 := e1.trans e2
    cases r2 : rowOk kvs 4 (.str n) with
    | false =>
      have : prOk kvs (o, n) = false := by show (rowOk kvs 4 (.str o) && (rowOk kvs 4 (.str n) && _)) = false; rw [r1, r2]; rfl
      rw [this] at kQ
      exact iteT (kQ H2 e2)
    | true =>
    obtain ⟨o4, oi⟩ := rowOk_str r1
    obtain ⟨n4, ni⟩ := rowOk_str r2
    have ha2 := e2 _ _ ha
    refine iteF ⟨_, rfl, a, [.str o, .str n], 0, _, rfl, rfl, SqT.of ha2, rfl, o, rfl, Nat.le_trans ho (by decide), _, rfl, a, [.str o, .str n], 1, _, rfl, rfl, SqT.of ha2, rfl, n, rfl, Nat.le_trans hn (by decide), rfl, _, rfl, ?_⟩
    refine ite2 (fun q => ?_) (fun q => ?_)
    · have q : o.length = n.length := by have := V.int.inj (of_decide_eq_true q); omega
      refine ⟨_, rfl, p, dx, fs, rfl, e2 _ _ h1, no _ (by decide) (by decide), _, rfl, a, [.str o, .str n], 1, _, rfl, rfl, SqT.of ha2, rfl, p, n, kvs, rfl, hp.same e2, hs, ni, hn, fun H3 e3 => ?_⟩
      have e3 := e2.trans e3
      refine ⟨_, rfl, p, dx, fs, rfl, e3 _ _ h1, no _ (by decide) (by decide), _, rfl, a, [.str o, .str n], 0, _, rfl, rfl, SqT.of (e3 _ _ ha), rfl, p, o, kvs, rfl, hp.same e3, hs, oi, ho, fun H4 e4 => ⟨_, _, rfl, rfl, ?_⟩⟩
      have : prOk kvs (o, n) = decide (wt kvs n < wt kvs o) := by
        show (rowOk kvs 4 (.str o) && (rowOk kvs 4 (.str n) && (decide (o.length = n.length) && decide (wt kvs n < wt kvs o)))) = _
        rw [r1, r2, decide_eq_true q]
        rfl
      rw [this] at kQ
      exact kQ _ (e3.trans e4)
    · have q : ¬ o.length = n.length := fun z => q (decide_eq_true (by rw [z]))
      have : prOk kvs (o, n) = false := by
        show (rowOk kvs 4 (.str o) && (rowOk kvs 4 (.str n) && (decide (o.length = n.length) && decide (wt kvs n < wt kvs o)))) = _
        rw [r1, r2, decide_eq_false q]
        rfl
      rw [this] at kQ
      exact kQ _ e2
theorem ok_good_swaps (T : Txt K mg A) : FnOk P w K mg base (L2.CX P w) 3 A.fSwaps_good_swaps A.dSwaps_good_swaps ["self", "swaps"] (spGoodSw A.cSwaps) := by
  have GSwaps_is_swap : FnOk P w K mg base CX0 2 A.fSwaps_is_swap A.dSwaps_is_swap ["self", "swap"] (spSwap A.cSwaps) := ok_is_swap T
  refine T.FSwaps_good_swaps.okX scSwaps_good_swaps (fun vs H Q E h => ?_) (fun cdv Ar outer s H vs Q E hr h => ?_)
  · obtain ⟨p, l, ps, kvs, rfl, _⟩ := h
    rfl
  · obtain ⟨p, l, ps, kvs, rfl, hp, hs, hl, h8, hgood, kQ⟩ := h
    refine ⟨_, (pss_cons (ps_if (PW.pt (pw_or (pt_not (pt_val (pe_callB call_isi (by rfl) T.z_isinstance boot_isi (pa_cons (pv 1) (pa_cons (pe_gT (n := "list") T.z_list) pa_nil))))) (pw_or1 (pt_cmpR op_gt (pe_callB call_len_seq (by rfl) T.z_len PySem.boot_len (pa_cons (pv 1) pa_nil)) (pe_gI T.kMOST_SWAPS) (nomark _))))) (pss_one (ps_raise rfl (takes_of rfl rfl rfl rfl) (pmk_F T.xNoRule T.mNoRule))) pss_nil)
      (pss_cons (ps_for (passes_of rfl) rfl (pi_list (pv 1)) (pg_name (i := 2) scSwaps_good_swaps.nd rfl (Or.inl rfl))
        (pss_one (ps_if (pt_not (pt_val (pe_meth (pv 0) T.clSwaps T.hSwaps_is_swap GSwaps_is_swap (hr.mono (by decide)) T.BSwaps_is_swap .nil pass0 (pa_cons (pv 2) pa_nil)))) (pss_one (ps_raise rfl (takes_of rfl rfl rfl rfl) (pmk_F T.xNoRule T.mNoRule))) pss_nil)))
      (pss_one (ps_ret (pe_callTy call_list_of (by rfl) T.z_list (by decide +kernel) (pa_cons (pv 1) pa_nil)))))), ?_⟩
    obtain ⟨as, hla, pa⟩ := id hl
    have hlen := paired_len pa
    refine ⟨_, rfl, _, _, _, _, true, rfl, .ty "list", .base (.lst hla), kit_ty (by decide +kernel), true, rfl, ?_⟩
    refine iteF ⟨_, rfl, l, _, rfl, .inl (SqL.of hla), _, _, rfl, rfl, _, rfl, ?_⟩
    rw [List.length_map, hlen]
    refine ite2 (fun q => absurd (of_decide_eq_true q) (by omega)) (fun _ => ?_)
    refine ⟨_, rfl, l, rfl, ⟨_, SqL.of hla⟩, for_list (K := K) (a := l) (xs := as.map V.ref) (fun i σ H' => ∃ v, σ = [some (.ref p), some (.ref l), v] ∧ Same H H') ⟨_, rfl, Same.refl H⟩ (fun i σ H' _ ⟨_, _, e⟩ => e.seq (SqL.of hla)) ?_ ?_⟩
    · rintro i v σ H1 hv ⟨_, rfl, e⟩
      obtain ⟨a, hai, rfl⟩ := ref_ix hv
      obtain ⟨pr, hpr, hat⟩ := paired_at pa hai
      obtain ⟨dx, fs, h1, no⟩ := (hp.same e).no
      obtain ⟨b1, b2, _⟩ := prOk_use (hgood pr (List.mem_of_getElem? hpr))
      refine ⟨_, rfl, p, dx, fs, rfl, h1, no _ (by decide) (by decide), _, rfl, p, a, pr, kvs, rfl, hp.same e, hs, e _ _ hat, by omega, by omega, fun H2 e2 => ⟨_, rfl, ?_⟩⟩
      rw [hgood pr (List.mem_of_getElem? hpr)]
      exact iteF ⟨_, rfl, e.trans e2⟩
    · rintro σ H1 ⟨v, rfl, e⟩
      refine ⟨_, rfl, l, _, rfl, .inl (e.seq (SqL.of hla)), fun m hm => ?_⟩
      have e2 := e.trans (Same.new (o := .lst (as.map V.ref)) hm)
      exact kQ _ m e2 (e.free hm) ⟨as, upd_same, paired_imp (fun _ _ q => e2 _ _ q) pa⟩
end
end K71
namespace K71
open PySem L2
section
variable {P : Program} {w : World} {K : PySem.W.Frag} {mg : Str → Option Value} {base : Heap} {A : Ad}
theorem ok_good_signs (T : Txt K mg A) : FnOk P w K mg base (L2.CX P w) 2 A.fSwaps_good_signs A.dSwaps_good_signs ["self", "signs"] (spGoodSg A.cSwaps) := by
  have Gis_number : FnOk P w K mg base CX0 1 A.fis_number A.dis_number ["thing", "least", "most"] (spNum K) := ok_is_number T
  refine T.FSwaps_good_signs.okX scSwaps_good_signs (fun vs H Q E h => ?_) (fun cdv Ar outer s H vs Q E hr h => ?_)
  · obtain ⟨p, d, kvs, rfl, _⟩ := h
    rfl
  · obtain ⟨p, d, kvs, rfl, hd, hs, l1, l8, kQ⟩ := h
    refine ⟨_, (pss_cons (ps_if (PW.pt (pw_or (pt_not (pt_val (pe_callB call_isi (by rfl) T.z_isinstance boot_isi (pa_cons (pv 1) (pa_cons (pe_gT (n := "dict") T.z_dict) pa_nil))))) (pw_or1 (pt_not (pt_chain op_le op_le pe_int (pe_callB call_lenD (by rfl) T.z_len PySem.boot_len (pa_cons (pv 1) pa_nil)) (pe_gI T.kMOST_SIGNS)))))) (pss_one (ps_raise rfl (takes_of rfl rfl rfl rfl) (pmk_F T.xNoRule T.mNoRule))) pss_nil)
      (pss_cons (ps_lock (ps_for (passes_of rfl) rfl (pi_items (pv 1)) (pg_tup (by rfl) (pgs_cons (pg_name (i := 2) scSwaps_good_signs.nd rfl (Or.inl rfl)) (pgs_cons (pg_name (i := 3) scSwaps_good_signs.nd rfl (Or.inl rfl)) pgs_nil)))
        (pss_cons (ps_if (PW.pt (pw_or (pt_not (pt_val (pe_callB call_isi (by rfl) T.z_isinstance boot_isi (pa_cons (pv 2) (pa_cons (pe_gT (n := "str") T.z_str) pa_nil))))) (pw_or (pt_cmpR op_ne (pe_callB call_len_str (by rfl) T.z_len PySem.boot_len (pa_cons (pv 2) pa_nil)) pe_int (nomark _)) (pw_or (pt_not (pt_chain op_le_str op_le_str (pe_gS T.kFIRST) (pv 2) (pe_gS T.kLAST))) (pw_or1 (pt_cmpR op_eq (pe_callB call_ord (by rfl) T.z_ord (by decide +kernel) (pa_cons (pv 2) pa_nil)) pe_int (nomark _))))))) (pss_one (ps_raise rfl (takes_of rfl rfl rfl rfl) (pmk_F T.xNoRule T.mNoRule))) pss_nil)
        (pss_one (ps_if (pt_not (pt_val (pe_call Gis_number (hr.mono (by decide)) rfl T.mis_number T.Fis_number.kp T.Bis_number .nil pass0 (pa_cons (pv 3) (pa_cons pe_int (pa_cons (pe_gI T.kMOST_WEIGHT) pa_nil)))))) (pss_one (ps_raise rfl (takes_of rfl rfl rfl rfl) (pmk_F T.xNoRule T.mNoRule))) pss_nil)))))
      (pss_one (ps_ret (pe_callTy call_dictD (by rfl) T.z_dict (by decide +kernel) (pa_cons (pv 1) pa_nil)))))), ?_⟩
    refine ⟨_, rfl, _, _, _, _, true, rfl, .ty "dict", .base (.dK hd), kit_ty (by decide +kernel), true, rfl, ?_⟩
    refine iteF ⟨_, rfl, d, kvs, rfl, hd, _, _, rfl, rfl, _, rfl, ?_⟩
    refine ite2 (fun _ => ?_) (fun q => (q (decide_eq_true (by omega))).elim)
    refine ⟨_, _, rfl, rfl, _, rfl, ?_⟩
    have q8 : decide ((kvs.length : Int) ≤ 8) = true := decide_eq_true (by omega)
    rw [q8]
    refine iteF ?_
    refine ⟨d, .dK kvs, hd, trivial, fun od => ?_⟩
    refine ⟨_, rfl, d, od, kvs, rfl, upd_same, forJ (n := kvs.length) (fun i σ H' => ∃ x y, σ = [some (.ref p), some (.ref d), x, y] ∧ Same (upd H d (.frz od (.dK kvs))) H')
      ⟨_, _, rfl, Same.refl _⟩ (fun i σ H' hi ⟨_, _, _, e⟩ => ⟨e _ _ upd_same, hi⟩) (fun σ H' ⟨_, _, _, e⟩ => ⟨e _ _ upd_same, Nat.le_refl _⟩) ?_ ?_⟩
    · rintro i v σ H1 H2 hi ⟨x, y, rfl, e⟩ ⟨T', k, v', hk, rfl, hT, rfl⟩
      obtain ⟨c, n, ec, c1, c2, c3, n0, n9⟩ := hs.one _ (List.mem_of_getElem? hk)
      cases congrArg Prod.fst ec
      cases congrArg Prod.snd ec
      have e2 := e.trans (Same.new (o := .tup [kV (sgn c), .int n]) hT)
      refine ⟨T', _, rfl, SqT.of upd_same, rfl, _, _, rfl, _, _, rfl, rfl, ?_⟩
      refine ⟨_, rfl, _, _, _, _, true, rfl, .ty "str", .base (.str _), kit_ty (by decide +kernel), true, rfl, ?_⟩
      refine iteF ⟨_, rfl, _, rfl, (by show 1 ≤ sizeLine; decide), rfl, _, rfl, ?_⟩
      refine iteF ⟨_, rfl, _, _, rfl, rfl, _, rfl, ?_⟩
      have g1 : decide ((⟨#[c]⟩ : Str).cps.toList < (Str.ofString "!").cps.toList) = false := decide_eq_false fun h => by
        have := one_lt (b := 33).mp h
        omega
      have g2 : decide ((Str.ofString "~").cps.toList < (⟨#[c]⟩ : Str).cps.toList) = false := decide_eq_false fun h => by
        have := one_lt (a := 126).mp h
        omega
      rw [g1]
      refine iteT ⟨_, _, rfl, rfl, _, rfl, ?_⟩
      rw [g2]
      refine iteF ⟨_, rfl, _, rfl, rfl, rfl, _, rfl, ?_⟩
      have g3 : decide (V.int ((⟨#[c]⟩ : Str).cps.getD 0 0 : Nat) = V.int 37) = false := decide_eq_false fun h => by
        have : (c : Int) = 37 := V.int.inj h
        omega
      rw [g3]
      refine iteF ?_
      refine ⟨_, rfl, .int n, 0, 9, rfl, .inl ⟨n, rfl⟩, _, rfl, ?_⟩
      have g4 : numOk (.int n) 0 9 = true := by simp [numOk, n0, n9]
      rw [g4]
      exact iteF ⟨_, _, rfl, e2⟩
    · rintro σ H1 ⟨x, y, rfl, e⟩
      refine ⟨e _ _ upd_same, ?_⟩
      have e1 := Same.unlock hd e
      refine ⟨_, rfl, d, kvs, rfl, .inl upd_same, fun l hl => kQ _ l (e1.trans (Same.new hl)) (e1.free hl) upd_same⟩
end
end K71
namespace K71
open PySem L2
section
variable {P : Program} {w : World} {K : PySem.W.Frag} {mg : Str → Option Value} {base : Heap} {A : Ad}
theorem ok_sw_init (T : Txt K mg A) : FnOk P w K mg base (L2.CX P w) 4 A.fSwaps___init__ A.dSwaps___init__ ["self", "signs", "ups", "downs"] (spSwInit A.cSwaps) := by
  have GSwaps_good_signs : FnOk P w K mg base (L2.CX P w) 2 A.fSwaps_good_signs A.dSwaps_good_signs ["self", "signs"] (spGoodSg A.cSwaps) := ok_good_signs T
  have GSwaps_good_swaps : FnOk P w K mg base (L2.CX P w) 3 A.fSwaps_good_swaps A.dSwaps_good_swaps ["self", "swaps"] (spGoodSw A.cSwaps) := ok_good_swaps T
  refine T.FSwaps___init__.okX scSwaps___init__ (fun vs H Q E h => ?_) (fun cdv Ar outer s H vs Q E hr h => ?_)
  · obtain ⟨p, dx, d, l, m, kvs, us, ds, rfl, _⟩ := h
    rfl
  · obtain ⟨p, dx, d, l, m, kvs, us, ds, rfl, hp, hd, hs, l1, l8, hl, hm, u8, d8, gu, gd, kQ⟩ := h
    refine ⟨_, (pss_cons (ps_fld (pv 0) (pe_meth (pv 0) T.clSwaps T.hSwaps_good_signs GSwaps_good_signs (hr.mono (by decide)) T.BSwaps_good_signs .nil (passes_call (takes_of rfl rfl rfl rfl) (fun _ _ _ _ h => h)) (pa_cons (pv 1) pa_nil)) rfl)
      (pss_one (ps_fld (pv 0) (pe_disp (pps_cons pe_str (pe_meth (pv 0) T.clSwaps T.hSwaps_good_swaps GSwaps_good_swaps (hr.mono (by decide)) T.BSwaps_good_swaps .nil (passes_call (takes_of rfl rfl rfl rfl) (fun _ _ _ _ h => h)) (pa_cons (pv 2) pa_nil)) (pps_cons pe_str (pe_meth (pv 0) T.clSwaps T.hSwaps_good_swaps GSwaps_good_swaps (hr.mono (by decide)) T.BSwaps_good_swaps .nil (passes_call (takes_of rfl rfl rfl rfl) (fun _ _ _ _ h => h)) (pa_cons (pv 3) pa_nil)) pps_nil)) (by rfl) (by rfl) (fun z => by cases z) (by decide)) rfl))), ?_⟩
    refine ⟨_, rfl, p, dx, [], rfl, hp, rfl, _, rfl, p, d, kvs, rfl, hd, hs, l1, l8, fun H1 d1 e1 f1 h1 => ?_⟩
    refine ⟨_, rfl, p, A.cSwaps, dx, [], rfl, e1 _ _ hp, T.clSwaps, T.nSwaps_signs, (by decide), ?_⟩
    have hp2 : (upd H1 p (.ins A.cSwaps dx [("signs", .ref d1)])) p = some (.ins A.cSwaps dx [("signs", .ref d1)]) := upd_same
    have k2 : ∀ b o, H b = some o → b ≠ p → (upd H1 p (.ins A.cSwaps dx [("signs", .ref d1)])) b = some o := fun b o q n => by rw [upd_ne n]; exact e1 _ _ q
    have nd1p : d1 ≠ p := ne_of h1 (e1 _ _ hp) (by intro z; cases z)
    have hd2 : (upd H1 p (.ins A.cSwaps dx [("signs", .ref d1)])) d1 = some (.dK kvs) := by rw [upd_ne nd1p]; exact h1
    have fr2 : ∀ b, (upd H1 p (.ins A.cSwaps dx [("signs", .ref d1)])) b = none → H b = none := fun b q => by
      by_cases z : b = p
      · rw [z, upd_same] at q; cases q
      · rw [upd_ne z] at q; exact e1.free q
    have nlp : l ≠ p := by obtain ⟨_, q, _⟩ := hl; exact ne_of q hp (by intro z; cases z)
    have nmp : m ≠ p := by obtain ⟨_, q, _⟩ := hm; exact ne_of q hp (by intro z; cases z)
    have ntp : ∀ {a : Addr} {pr : Pr}, PrAt H a pr → a ≠ p := fun q => ne_of q hp (by intro z; cases z)
    have hl2 : SwL (upd H1 p (.ins A.cSwaps dx [("signs", .ref d1)])) l us := let ⟨as, q1, q2⟩ := hl; ⟨as, k2 _ _ q1 nlp, paired_imp (fun _ _ q => k2 _ _ q (ntp q)) q2⟩
    have hm2 : SwL (upd H1 p (.ins A.cSwaps dx [("signs", .ref d1)])) m ds := let ⟨as, q1, q2⟩ := hm; ⟨as, k2 _ _ q1 nmp, paired_imp (fun _ _ q => k2 _ _ q (ntp q)) q2⟩
    show tSeq _ _ _ _ (upd H1 p (.ins A.cSwaps dx [("signs", .ref d1)]))
    generalize upd H1 p (.ins A.cSwaps dx [("signs", .ref d1)]) = H2 at hp2 k2 hd2 fr2 hl2 hm2
    have sg2 : SigAt A.cSwaps H2 p kvs := ⟨dx, d1, [], hp2, hd2, .inl rfl⟩
    refine fun t ht => ?_
    have e3 := Same.new (o := .dK []) ht
    have ht3 : (upd H2 t (.dK [])) t = some (.dK []) := upd_same
    refine ⟨_, rfl, p, dx, _, rfl, e3 _ _ hp2, rfl, _, rfl, p, l, us, kvs, rfl, sg2.same e3, hs, hl2.same e3, u8, gu, fun H4 l' e4 fl4 hl4 => ?_⟩
    have e4' := e3.trans e4
    refine ⟨_, rfl, p, dx, _, rfl, e4' _ _ hp2, rfl, _, rfl, p, m, ds, kvs, rfl, sg2.same e4', hs, hm2.same e4', d8, gd, fun H5 m' e5 fm5 hm5 => ?_⟩
    have e5' := e4'.trans e5
    have ht5 : H5 t = some (.dK []) := e5 _ _ (e4 _ _ ht3)
    have hp5 := e5' _ _ hp2
    have npt : p ≠ t := ne_of_none hp2 ht
    have hl5 := hl4.same e5
    obtain ⟨as, la5, pa5⟩ := hl5
    obtain ⟨bs, mb5, pb5⟩ := hm5
    have nlt : l' ≠ t := ne_of la5 ht5 (by intro z; cases z)
    have nmt : m' ≠ t := ne_of mb5 ht5 (by intro z; cases z)
    have nlp' : l' ≠ p := ne_of la5 hp5 (by intro z; cases z)
    have nmp' : m' ≠ p := ne_of mb5 hp5 (by intro z; cases z)
    have nd1t : d1 ≠ t := ne_of_none hd2 ht
    refine ⟨ht5, [(Sum.inr "up", .ref l'), (Sum.inr "down", .ref m')], rfl, (by show 2 ≤ 15; decide), ?_⟩
    refine ⟨_, rfl, p, A.cSwaps, dx, _, rfl, (by rw [upd_ne npt]; exact hp5), T.clSwaps, T.nSwaps_swaps, (by show 1 < 1000; decide), ?_⟩
    have kk : ∀ b o, H5 b = some o → b ≠ t → b ≠ p → (upd (upd H5 t (.dK (mergeK [] [(Sum.inr "up", .ref l'), (Sum.inr "down", .ref m')]))) p (.ins A.cSwaps dx [("signs", .ref d1), ("swaps", .ref t)])) b = some o := fun b o q n1 n2 => by
      rw [upd_ne n2, upd_ne n1]
      exact q
    refine kQ _ ⟨dx, d1, t, l', m', as, bs, f1, fr2 _ ht, fr2 _ (e3.free fl4), fr2 _ (e4'.free fm5), upd_same, kk _ _ (e5' _ _ hd2) nd1t nd1p, ?_, kk _ _ la5 nlt nlp', kk _ _ mb5 nmt nmp', ?_, ?_⟩ fun b o hb nb => ?_
    · rw [upd_ne (Ne.symm npt), upd_same]; rfl
    · exact paired_imp (fun _ _ q => kk _ _ q (ne_of q ht5 (by intro z; cases z)) (ne_of q hp5 (by intro z; cases z))) pa5
    · exact paired_imp (fun _ _ q => kk _ _ q (ne_of q ht5 (by intro z; cases z)) (ne_of q hp5 (by intro z; cases z))) pb5
    · exact kk _ _ (e5' _ _ (k2 _ _ hb nb)) (ne_of_none (k2 _ _ hb nb) ht) nb
theorem ok_sw_is_board (T : Txt K mg A) (kvs : Kvs) (us ds : List Pr) : FnOk P w K mg base CX0 2 A.fSwaps_is_board A.dSwaps_is_board ["self", "board"] (spIsB K (SwAt A.cSwaps kvs us ds) (rowOk kvs 10)) := by
  have GSwaps_is_row : FnOk P w K mg base CX0 1 A.fSwaps_is_row A.dSwaps_is_row ["self", "thing", "longest"] (spRow K A.cSwaps) := ok_row T
  refine T.FSwaps_is_board.ok scSwaps_is_board (fun vs H Q E h => ?_) (fun cdv Ar outer s H vs Q E hr h => ?_)
  · obtain ⟨p, v, rfl, _⟩ := h
    rfl
  · obtain ⟨p, v, rfl, hp, hv, kQ⟩ := h
    refine ⟨_, (pss_one (ps_ret (pe_meth (pv 0) T.clSwaps T.hSwaps_is_row GSwaps_is_row (hr.mono (by decide)) T.BSwaps_is_row .nil pass0 (pa_cons (pv 1) (pa_cons (pe_gI T.kLONGEST_BOARD) pa_nil))))), ?_⟩
    obtain ⟨dx, fs, h1, no⟩ := hp.sig.no
    exact ⟨_, rfl, p, dx, fs, rfl, h1, no _ (by decide) (by decide), _, rfl, p, v, 10, kvs, rfl, hp.sig, hv, kQ⟩
theorem ok_sw_changed (T : Txt K mg A) (kvs : Kvs) (us ds : List Pr) (u6 : us.length ≤ 6) (d6 : ds.length ≤ 6) (ul : ∀ pr ∈ us, pr.1.length ≤ 4 ∧ pr.2.length ≤ 4) (dl : ∀ pr ∈ ds, pr.1.length ≤ 4 ∧ pr.2.length ≤ 4) :
    FnOk P w K mg base CX0 1 A.fSwaps_changed A.dSwaps_changed ["self", "board", "hand"] (spChg (SwAt A.cSwaps kvs us ds) (rowOk kvs 10) (chS us ds)) := by
  refine T.FSwaps_changed.ok scSwaps_changed (fun vs H Q E h => ?_) (fun cdv Ar outer s H vs Q E hr h => ?_)
  · obtain ⟨p, z, u, rfl, _⟩ := h
    rfl
  · obtain ⟨p, z, u, rfl, hp, hz, kQ⟩ := h
    obtain ⟨hz10, _⟩ := rowOk_str hz
    obtain ⟨dx, d, t, l, m, h1, h2, h3, h4, h5⟩ := id hp
    unfold chS at kQ
    generalize hps : (if u = true then us else ds) = ps at kQ
    have pl : ps.length ≤ 6 := by rw [← hps]; split <;> assumption
    have pe : ∀ pr ∈ ps, pr.1.length ≤ 4 ∧ pr.2.length ≤ 4 := by rw [← hps]; split <;> assumption
    have hla : SwL H (if u = true then l else m) ps := by rw [← hps]; cases u <;> assumption
    have hget : valV [((Sum.inr "up" : Key), V.ref l), (Sum.inr "down", V.ref m)] (Sum.inr (handS u)) = some (.ref (if u = true then l else m)) := by cases u <;> rfl
    generalize hal : (if u = true then l else m) = al at hla hget
    obtain ⟨as, ha, pa⟩ := hla
    have hlen := paired_len pa
    refine ⟨_, (pss_cons (ps_set (i := 3) scSwaps_changed.nd rfl (Or.inl rfl) (pe_lst pa_nil))
      (pss_cons (ps_for PassesOwn.never rfl (pi_list (pe_dget (by exact hu_of hr) (pe_fld (pv 0) rfl) (pv 2) (fun _ _ => rfl))) (pg_tup (by rfl) (pgs_cons (pg_name (i := 4) scSwaps_changed.nd rfl (Or.inl rfl)) (pgs_cons (pg_name (i := 5) scSwaps_changed.nd rfl (Or.inl rfl)) pgs_nil)))
        (pss_one (ps_for PassesOwn.never rfl (pi_range1 (by rfl) T.z_range (pa_cons (pe_callB call_len_str (by rfl) T.z_len PySem.boot_len (pa_cons (pv 1) pa_nil)) pa_nil)) (pg_name (i := 6) scSwaps_changed.nd rfl (Or.inl rfl))
          (pss_one (ps_if (pt_val (pe_bm PySem.F.plainAttrs_str PySem.F.slot_str_startswith PySem.F.type_str_startswith mt_startswith3 (pv 1) (pa_cons (pv 4) (pa_cons (pv 6) pa_nil)))) (pss_one (ps_expr (pe_bm PySem.F.plainAttrs_list PySem.F.slot_list_append PySem.F.type_list_append mt_append (pv 3) (pa_cons (pe_op op_add_str (pe_op op_add_str (pe_slice sl_str (pv 1) po_none (po_some (pv 6))) (pv 5)) (pe_slice sl_str (pv 1) (po_some (pe_op op_add (pv 6) (pe_callB call_len_str (by rfl) T.z_len PySem.boot_len (pa_cons (pv 4) pa_nil)))) po_none)) pa_nil)))) pss_nil)))))
      (pss_one (ps_ret (pv 3))))), ?_⟩
    refine ⟨Nat.zero_le _, fun f hf => ?_⟩
    refine ⟨_, rfl, p, A.cSwaps, dx, _, _, rfl, (Same.new hf) _ _ h1, T.clSwaps, T.nSwaps_swaps, rfl, _, rfl, t, .ref al, rfl, (by have g := DGet.k (k := Sum.inr (handS u)) ((Same.new (o := .lst []) hf) _ _ h3); rw [hget] at g; exact g), al, rfl, ⟨_, SqL.of ((Same.new hf) _ _ ha)⟩,
      for_list (K := K) (a := al) (xs := as.map V.ref) (fun i σ H' => ∃ a b c, σ = [some (.ref p), some (.str z), some (.str (handS u)), some (.ref f), a, b, c] ∧ Same H H' ∧ H' f = some (.lst ((genS (ps.take i) z).map V.str)))
      ⟨_, _, _, rfl, Same.new hf, upd_same⟩ (fun i σ H' _ ⟨_, _, _, _, e, _⟩ => SqL.of (e _ _ ha)) ?_ ?_⟩
    · rintro i v σ H1 hv ⟨a, b, c, rfl, e, hfl⟩
      obtain ⟨q, hq, rfl⟩ := ref_ix hv
      obtain ⟨⟨o, n⟩, hpr, hat⟩ := paired_at pa hq
      obtain ⟨o4, n4⟩ := pe _ (List.mem_of_getElem? hpr)
      have o4 : o.length ≤ 4 := o4
      have n4 : n.length ≤ 4 := n4
      have hi : i < ps.length := (List.getElem?_eq_some_iff.mp hpr).1
      have hzl : z.length ≤ sizeLine := Nat.le_trans hz10 (by decide)
      refine ⟨q, [.str o, .str n], rfl, SqT.of (e _ _ hat), rfl, _, _, rfl, _, _, rfl, rfl, ?_⟩
      refine ⟨_, rfl, z, rfl, hzl, _, rfl, by omega, by omega, for_range (lo := 0) (n := z.length) (fun j σ H' => ∃ x, σ = [some (.ref p), some (.str z), some (.str (handS u)), some (.ref f), some (.str o), some (.str n), x] ∧ Same H H' ∧ H' f = some (.lst ((genS (ps.take i) z ++ turnS z (o, n) j).map V.str)))
        ⟨_, rfl, e, by rw [hfl]; simp [turnS]⟩ ?_ ?_⟩
      · rintro j σ H2 hj ⟨x, rfl, e2, hf2⟩
        have h0j : (0 : Int) + (j : Int) = (j : Int) := Int.zero_add _
        refine ⟨_, rfl, rfl, _, rfl, _, rfl, _, _, _, rfl, rfl, _, rfl, ?_⟩
        rw [h0j]
        show if hit z o j = true then _ else _
        have g1 := genS_len z (ps.take i)
        have g2 := turnS_len z (o, n) j
        have g3 : (ps.take i).length ≤ 5 := by rw [List.length_take]; omega
        have g4 : (ps.take i).length * z.length ≤ 5 * 10 := Nat.mul_le_mul g3 hz10
        cases hh : hit z o j with
        | true =>
          refine iteT ⟨_, rfl, .inl ⟨rfl, _, SqL.of hf2⟩, _, rfl, _, rfl, _, rfl, z, rfl, hzl, _, rfl, _, _, rfl, rfl, ?_, ?_⟩
          · have := cutS_length z none (some (j : Int))
            exact Nat.le_trans (by omega : _ ≤ 14) (by decide)
          refine ⟨_, rfl, _, rfl, _, rfl, o, rfl, Nat.le_trans o4 (by decide), _, _, rfl, rfl, _, rfl, z, rfl, hzl, _, _, rfl, rfl, ?_, f, _, _, rfl, rfl, hf2, ?_, ?_⟩
          · rw [str_len_app]
            have := cutS_length z none (some (j : Int))
            have := cutS_length z (some ((j : Int) + (o.length : Int))) none
            exact Nat.le_trans (by omega : _ ≤ 24) (by decide)
          · rw [List.length_map, List.length_append]
            exact small1000 (by omega)
          · refine ⟨_, rfl, e2.mut hf, ?_⟩
            rw [upd_same, turnS_succ, hh]
            simp [swAt]
        | false =>
          refine iteF ⟨_, rfl, e2, ?_⟩
          rw [hf2, turnS_succ, hh]
          simp
      · rintro σ H2 ⟨x, rfl, e2, hf2⟩
        refine ⟨_, _, _, rfl, e2, ?_⟩
        rw [hf2, take_snoc hpr, genS_snoc]
    · rintro σ H1 ⟨a, b, c, rfl, e, hfl⟩
      rw [List.length_map, hlen, List.take_length] at hfl
      exact ⟨_, rfl, kQ H1 f e hf hfl⟩
end
end K71
namespace K71
open PySem L2
section
variable {P : Program} {w : World} {K : PySem.W.Frag} {mg : Str → Option Value} {base : Heap} {A : Ad}
theorem ok_lsigns (T : Txt K mg A) : FnOk P w K mg base CX0 2 A.flaw_signs A.dlaw_signs ["_law_state_here"] spLSigns := by
  have Glaw_next : FnOk P w K mg base CX0 1 A.flaw_next A.dlaw_next ["_law_state_here", "_law_many"] spLawNext := ok_next T
  refine T.Flaw_signs.ok sclaw_signs (fun vs H Q E h => ?_) (fun cdv Ar outer s H vs Q E hr h => ?_)
  · obtain ⟨a, rfl, _⟩ := h
    rfl
  · obtain ⟨a, rfl, st, k⟩ := h
    refine ⟨_, (pss_cons (ps_set (i := 1) sclaw_signs.nd rfl (Or.inl rfl) pe_dnewK)
      (pss_cons (ps_for PassesOwn.never rfl (pi_range1 (by rfl) T.z_range (pa_cons (pe_op op_add pe_int (pe_call Glaw_next (hr.mono (by decide)) rfl T.mlaw_next T.Flaw_next.kp T.Blaw_next .nil pass0 (pa_cons (pv 0) (pa_cons pe_int pa_nil)))) pa_nil)) (pg_name (i := 2) sclaw_signs.nd rfl (Or.inl rfl))
        (pss_one (ps_dput (by exact hu_of hr) (pv 1) (pe_ix ix_str pe_str (pe_call Glaw_next (hr.mono (by decide)) rfl T.mlaw_next T.Flaw_next.kp T.Blaw_next .nil pass0 (pa_cons (pv 0) (pa_cons pe_int pa_nil))) (fun _ _ => rfl)) (pe_call Glaw_next (hr.mono (by decide)) rfl T.mlaw_next T.Flaw_next.kp T.Blaw_next .nil pass0 (pa_cons (pv 0) (pa_cons pe_int pa_nil))) rfl)))
      (pss_one (ps_ret (pv 1))))), ?_⟩
    refine fun d hd => ⟨_, rfl, ?_⟩
    have st := st.refl
    have st1 := st.new (o := .dK []) hd
    have nda := st.away hd
    refine L2.StM.next (m := 5) st1 (by decide) ?_
    intro r H1 r0 r1 st1 aw
    have hd1 : H1 d = some (.dK []) := (aw d nda).trans upd_same
    refine ⟨_, _, rfl, rfl, _, rfl, by omega, by omega, for_range (lo := 0) (n := (1 + r).toNat) (fun j σ H' => ∃ x kvs, σ = [some (.ref a), some (.ref d), x] ∧ StM H H' a ∧ H' d = some (.dK kvs) ∧ SgOk kvs ∧ kvs.length ≤ j ∧ (1 ≤ j → 1 ≤ kvs.length))
      ⟨_, [], rfl, st1, hd1, SgOk.nil, Nat.le_refl _, fun h => absurd h (by decide)⟩ ?_ ?_⟩
    · rintro j σ H2 hj ⟨x, kvs, rfl, st2, hd2, hs, hl, h1⟩
      refine ⟨_, rfl, ?_⟩
      refine L2.StM.next (m := 10) st2 (by decide) ?_
      intro n H3 n0 n1 st3 aw3
      refine ⟨_, rfl, _, rfl, ?_⟩
      refine L2.StM.next (m := 8) st3 (by decide) ?_
      intro q H4 q0 q1 st4 aw4
      obtain ⟨c, hc, c1, c2, c3⟩ := sign_at q0 q1
      have hd4 : H4 d = some (.dK kvs) := (aw4 d nda).trans ((aw3 d nda).trans hd2)
      refine ⟨_, _, c, rfl, rfl, by decide, hc, d, _, rfl, DPut.k (k := sgn c) hd4 (small1000 (by omega)), ?_⟩
      refine ⟨_, _, rfl, st4.mut (st.free hd) nda, upd_same, hs.put c1 c2 c3 n0 (by omega), ?_, fun _ => putK_pos _ _ _⟩
      have := length_putK kvs (sgn c) (.int n)
      omega
    · rintro σ H2 ⟨x, kvs, rfl, st2, hd2, hs, hl, h1⟩
      exact ⟨_, rfl, k kvs d H2 st2 (st.free hd) hd2 hs (h1 (by omega)) (by omega)⟩
theorem ok_heavy (T : Txt K mg A) : FnOk P w K mg base CX0 1 A.flaw_heavy A.dlaw_heavy ["_law_signs_here", "_law_text"] spLHeavy := by
  refine T.Flaw_heavy.ok sclaw_heavy (fun vs H Q E h => ?_) (fun cdv Ar outer s H vs Q E hr h => ?_)
  · obtain ⟨d, z, kvs, rfl, _⟩ := h
    rfl
  · obtain ⟨d, z, kvs, rfl, hd, hs, hz, hzl, kQ⟩ := h
    refine ⟨_, (pss_one (ps_ret (pe_callB (cr_sum rfl) (by rfl) T.z_sum (by decide +kernel) (pa_cons (pe_lc (own := [("_law_sign", 2)]) (g := gName 2) (tt := tYes) rfl sclaw_heavy.nd (pi_str (pv 1)) (blkOk_by (N := ["_law_signs_here", "_law_text", "_law_sign"]) (sc := defScope slaw_heavy) (by decide +kernel)) (fun _ _ _ _ _ => pg_name (i := 2) sclaw_heavy.nd rfl (Or.inl rfl)) (fun _ _ _ _ _ => pts_nil) (fun _ _ _ _ _ => (pe_dget (by exact hu_of hr) (pv 0) (pv 2) (fun _ _ => rfl)))) pa_nil)))), ?_⟩
    refine ⟨_, rfl, z, rfl, fun M hM => lc_str (z := z) (fun i H' => Same H H' ∧ H' M = some (.lst (((z.cps.toList.take i).map (wtC kvs)).map V.int))) ⟨Same.new hM, by rw [upd_same]; simp⟩ ?_ ?_⟩
    · rintro i c H1 hc ⟨e, hl⟩
      have hin := (hs.at (List.all_eq_true.mp hz c (List.mem_of_getElem? (cps_at hc)))).1
      refine ⟨rfl, _, rfl, _, rfl, d, _, rfl, (by have g := DGet.k (k := sgn c) (e _ _ hd); rw [hin] at g; exact g), _, hl, ?_, e.mut hM, ?_⟩
      · rw [List.length_map, List.length_map, List.length_take, cps_len]
        exact small1000 (Nat.le_trans (Nat.min_le_right _ _) hzl)
      · rw [upd_same, take_snoc (cps_at hc), List.map_append, List.map_append]
        rfl
    · rintro H1 ⟨e, hl⟩
      refine ⟨M, _, rfl, SqL.of hl, ?_⟩
      rw [cps_take]
      exact kQ H1 e
theorem ok_lrow (T : Txt K mg A) : FnOk P w K mg base CX0 2 A.flaw_row A.dlaw_row ["_law_state_here", "_law_signs_here", "_law_many"] spLRow := by
  have Glaw_next : FnOk P w K mg base CX0 1 A.flaw_next A.dlaw_next ["_law_state_here", "_law_many"] spLawNext := ok_next T
  refine T.Flaw_row.ok sclaw_row (fun vs H Q E h => ?_) (fun cdv Ar outer s H vs Q E hr h => ?_)
  · obtain ⟨a, d, m, kvs, rfl, _⟩ := h
    rfl
  · obtain ⟨a, d, m, kvs, rfl, st, hd, hs, l1, l8, m0, m20, k⟩ := h
    refine ⟨_, (pss_cons (ps_set (i := 3) sclaw_row.nd rfl (Or.inr rfl) (pe_callTy (call_listD rfl) (by rfl) T.z_list (by decide +kernel) (pa_cons (pv 1) pa_nil)))
      (pss_one (ps_ret (pe_join pe_str (pe_lc (own := [("_law_k", 4)]) (g := gName 4) (tt := tYes) rfl sclaw_row.nd (pi_range1 (by rfl) T.z_range (pa_cons (pv 2) pa_nil)) (blkOk_by (N := ["_law_state_here", "_law_signs_here", "_law_many", "_law_names", "_law_k"]) (sc := defScope slaw_row) (by decide +kernel)) (fun _ _ _ _ _ => pg_name (i := 4) sclaw_row.nd rfl (Or.inl rfl)) (fun _ _ _ _ _ => pts_nil) (fun _ _ _ _ _ => (pe_ix (ix_listB (K := K) rfl) (pv 3) (pe_call Glaw_next (hr.mono (by decide)) rfl T.mlaw_next T.Flaw_next.kp T.Blaw_next .nil pass0 (pa_cons (pv 0) (pa_cons (pe_callB (call_len_seqB (K := K) rfl) (by rfl) T.z_len PySem.boot_len (pa_cons (pv 3) pa_nil)) pa_nil))) (fun _ _ => rfl)))))))), ?_⟩
    have st := st.refl
    obtain ⟨cs, en, hin⟩ := hs.names
    have lcs : cs.length = kvs.length := by have := congrArg List.length en; simpa using this.symm
    refine ⟨_, rfl, d, kvs, rfl, .inl hd, fun nl hnl => ?_⟩
    rw [en]
    have enl : Same H (upd H nl (.lst (cs.map fun c => V.str ⟨#[c]⟩))) := Same.new hnl
    have stn := st.new (o := .lst (cs.map fun c => V.str ⟨#[c]⟩)) hnl
    have hn0 : (upd H nl (.lst (cs.map fun c => V.str ⟨#[c]⟩))) nl = some (.lst (cs.map fun c => V.str ⟨#[c]⟩)) := upd_same
    have nna := st.away hnl
    generalize upd H nl (.lst (cs.map fun c => V.str ⟨#[c]⟩)) = H1 at enl stn hn0
    refine ⟨⟨_, rfl⟩, _, rfl, _, rfl, by omega, by omega, fun L hL => ?_⟩
    have nLa := stn.away hL
    have stn' := stn.bare.refl
    refine lc_range (lo := 0) (n := m.toNat) (fun j H' => ∃ ds : List Nat, ds.length = j ∧ (∀ c ∈ ds, inS kvs c = true) ∧ H' L = some (.lst ((ds.map fun c => (⟨#[c]⟩ : Str)).map V.str)) ∧ StM H1 H' a) ⟨[], rfl, (fun c hc => nomatch hc), upd_same, stn'.new hL⟩ ?_ ?_
    · rintro j H2 hj ⟨ds, hds, hdi, hl2, st2⟩
      have hn2 : H2 nl = some (.lst (cs.map fun c => V.str ⟨#[c]⟩)) := st2.1 _ _ hn0 nna
      refine ⟨rfl, _, rfl, _, rfl, _, rfl, nl, _, rfl, .inl (SqL.of hn2), ?_⟩
      have g : (1 : Int) ≤ (((cs.map fun c => V.str ⟨#[c]⟩).length : Nat) : Int) := by rw [List.length_map]; omega
      refine L2.StM.next st2 g ?_
      intro r H3 r0 r1 st3 aw
      have hr : r.toNat < cs.length := by rw [List.length_map] at r1; omega
      have hat : (cs.map fun c => V.str ⟨#[c]⟩)[r.toNat]? = some (.str ⟨#[cs[r.toNat]]⟩) := by rw [List.getElem?_map, List.getElem?_eq_getElem hr]; rfl
      refine ⟨nl, _, r, _, rfl, rfl, SqL.of ((aw nl nna).trans hn2), at_of (by omega) hat, _, (aw L nLa).trans hl2, ?_, ds ++ [cs[r.toNat]], by simp [hds], ?_, by rw [upd_same]; simp, st3.mut hL nLa⟩
      · rw [List.length_map, List.length_map, hds]
        exact small1000 (by omega)
      · intro c hc
        rcases List.mem_append.mp hc with q | q
        · exact hdi c q
        · rw [List.mem_singleton.mp q]
          exact hin _ (List.getElem_mem hr)
    · rintro H2 ⟨ds, hds, hdi, hl2, st2⟩
      refine ⟨"", L, _, rfl, rfl, .inl (SqL.of hl2), ?_, ?_⟩
      · rw [sum_ones]
        have : ("" : Str).length = 0 := rfl
        rw [this]
        omega
      refine k _ H2 (st2.back enl) ?_ (allIn_signs hdi)
      rw [← cps_len, join_signs, hds]
      omega
end
end K71
namespace K71
open PySem L2
section
variable {P : Program} {w : World} {K : PySem.W.Frag} {mg : Str → Option Value} {base : Heap} {A : Ad}
theorem ok_lswaps (T : Txt K mg A) : FnOk P w K mg base CX0 3 A.flaw_swaps A.dlaw_swaps ["_law_state_here", "_law_signs_here"] spLSwaps := by
  have Glaw_next : FnOk P w K mg base CX0 1 A.flaw_next A.dlaw_next ["_law_state_here", "_law_many"] spLawNext := ok_next T
  have Glaw_heavy : FnOk P w K mg base CX0 1 A.flaw_heavy A.dlaw_heavy ["_law_signs_here", "_law_text"] spLHeavy := ok_heavy T
  have Glaw_row : FnOk P w K mg base CX0 2 A.flaw_row A.dlaw_row ["_law_state_here", "_law_signs_here", "_law_many"] spLRow := ok_lrow T
  refine T.Flaw_swaps.ok sclaw_swaps (fun vs H Q E h => ?_) (fun cdv Ar outer s H vs Q E hr h => ?_)
  · obtain ⟨a, d, kvs, rfl, _⟩ := h
    rfl
  · obtain ⟨a, d, kvs, rfl, st, hd, hs, l1, l8, k⟩ := h
    refine ⟨_, (pss_cons (ps_set (i := 2) sclaw_swaps.nd rfl (Or.inl rfl) (pe_lst pa_nil))
      (pss_cons (ps_for PassesOwn.never rfl (pi_range1 (by rfl) T.z_range (pa_cons (pe_call Glaw_next (hr.mono (by decide)) rfl T.mlaw_next T.Flaw_next.kp T.Blaw_next .nil pass0 (pa_cons (pv 0) (pa_cons pe_int pa_nil))) pa_nil)) (pg_name (i := 3) sclaw_swaps.nd rfl (Or.inl rfl))
        (pss_cons (ps_set (i := 4) sclaw_swaps.nd rfl (Or.inl rfl) (pe_op op_add pe_int (pe_call Glaw_next (hr.mono (by decide)) rfl T.mlaw_next T.Flaw_next.kp T.Blaw_next .nil pass0 (pa_cons (pv 0) (pa_cons (pe_ix ix_list (pe_lst (pa_cons pe_int (pa_cons pe_int pa_nil))) (pe_call Glaw_next (hr.mono (by decide)) rfl T.mlaw_next T.Flaw_next.kp T.Blaw_next .nil pass0 (pa_cons (pv 0) (pa_cons pe_int pa_nil))) (fun _ _ => rfl)) pa_nil)))))
        (pss_cons (ps_set (i := 5) sclaw_swaps.nd rfl (Or.inl rfl) (pe_call Glaw_row (hr.mono (by decide)) rfl T.mlaw_row T.Flaw_row.kp T.Blaw_row .nil pass0 (pa_cons (pv 0) (pa_cons (pv 1) (pa_cons (pv 4) pa_nil)))))
        (pss_cons (ps_set (i := 6) sclaw_swaps.nd rfl (Or.inl rfl) (pe_call Glaw_row (hr.mono (by decide)) rfl T.mlaw_row T.Flaw_row.kp T.Blaw_row .nil pass0 (pa_cons (pv 0) (pa_cons (pv 1) (pa_cons (pv 4) pa_nil)))))
        (C8.pss_cut (ps_if (pt_cmpR op_gt (pe_call Glaw_heavy (hr.mono (by decide)) rfl T.mlaw_heavy T.Flaw_heavy.kp T.Blaw_heavy .nil pass0 (pa_cons (pv 1) (pa_cons (pv 6) pa_nil))) (pe_call Glaw_heavy (hr.mono (by decide)) rfl T.mlaw_heavy T.Flaw_heavy.kp T.Blaw_heavy .nil pass0 (pa_cons (pv 1) (pa_cons (pv 5) pa_nil))) (nomark _)) (pss_one (ps_par (by rfl) sclaw_swaps.nd (i := 5) (j := 6) rfl rfl (by decide) rfl rfl (pa_cons (pv 6) (pa_cons (pv 5) pa_nil)) (by rfl))) pss_nil)
        (pss_one (ps_if (pt_cmpR op_lt (pe_call Glaw_heavy (hr.mono (by decide)) rfl T.mlaw_heavy T.Flaw_heavy.kp T.Blaw_heavy .nil pass0 (pa_cons (pv 1) (pa_cons (pv 6) pa_nil))) (pe_call Glaw_heavy (hr.mono (by decide)) rfl T.mlaw_heavy T.Flaw_heavy.kp T.Blaw_heavy .nil pass0 (pa_cons (pv 1) (pa_cons (pv 5) pa_nil))) (nomark _)) (pss_one (ps_expr (pe_bm PySem.F.plainAttrs_list PySem.F.slot_list_append PySem.F.type_list_append mt_append (pv 2) (pa_cons (pe_tup (pa_cons (pv 5) (pa_cons (pv 6) pa_nil))) pa_nil)))) pss_nil)))))))
      (pss_one (ps_ret (pv 2))))), ?_⟩
    have nda := st.ne hd
    have st := st.refl
    refine ⟨Nat.zero_le _, fun f hf => ⟨_, rfl, ?_⟩⟩
    have nfa := st.away hf
    refine L2.StM.next (m := 6) (st.new hf) (by decide) ?_
    intro r0 H1 z0 z1 st1 aw1
    have hf1 : H1 f = some (.lst []) := (aw1 f nfa).trans upd_same
    refine ⟨_, rfl, by omega, by omega, for_range (lo := 0) (n := r0.toNat) (fun j σ H' => ∃ x y v u us, σ = [some (.ref a), some (.ref d), some (.ref f), x, y, v, u] ∧ StM H H' a ∧ SwL H' f us ∧ us.length ≤ j ∧ ∀ pr ∈ us, prOk kvs pr = true)
      ⟨_, _, _, _, [], rfl, st1, ⟨[], hf1, .nil⟩, Nat.le_refl _, fun pr h => nomatch h⟩ ?_ ?_⟩
    · rintro j σ H2 hj ⟨x, y, v, u, us, rfl, st2, sw, hl, hok⟩
      -- how many signs
      refine ⟨_, rfl, by show 2 ≤ sizeLine; decide, fun p hp => ⟨_, rfl, ?_⟩⟩
      have npa := st2.away hp
      have sb2 := st2.bare
      have sw := sw.same (Same.new (o := .lst [.int 2, .int 4]) hp)
      have st2 := st2.new (o := .lst [.int 2, .int 4]) hp
      refine L2.StM.next (m := 2) st2 (by decide) ?_
      intro r2 H3 a0 a1 st3 aw3
      obtain ⟨m4, hm4, b0, b1⟩ := two_four a0 a1
      have hp3 : H3 p = some (.lst [.int 2, .int 4]) := (aw3 p npa).trans upd_same
      have sb2 := st2.bare
      have sw := sw.stm sb2 ⟨fun b o q n => by rw [aw3 b n]; exact q, st3.bare⟩
      refine ⟨p, _, r2, _, rfl, rfl, SqL.of hp3, hm4, ?_⟩
      refine L2.StM.next (m := m4) st3 b0 ?_
      intro r4 H4 c0 c1 st4 aw4
      have sw := sw.stm st3.bare ⟨fun b o q n => by rw [aw4 b n]; exact q, st4.bare⟩
      refine ⟨_, _, rfl, rfl, ?_⟩
      -- the two rows
      refine ⟨_, rfl, _, rfl, _, rfl, a, d, 1 + r4, kvs, rfl, st4.bare, st4.1 _ _ hd nda, hs, l1, l8, by omega, by omega, fun o H5 st5 lo io => ?_⟩
      have sw := sw.stm st4.bare st5
      have st5 := st4.trans st5
      refine ⟨_, rfl, _, rfl, _, rfl, a, d, 1 + r4, kvs, rfl, st5.bare, st5.1 _ _ hd nda, hs, l1, l8, by omega, by omega, fun n H6 st6 ln inn => ?_⟩
      have sw := sw.stm st5.bare st6
      have st6 := st5.trans st6
      have hd6 := st6.1 _ _ hd nda
      refine ⟨fun σ' H' => ∃ o n : Str, σ' = [some (.ref a), some (.ref d), some (.ref f), some (.int (0 + (j : Int))), some (.int (1 + r4)), some (.str o), some (.str n)] ∧ o.length = (1 + r4).toNat ∧ n.length = (1 + r4).toNat ∧ allIn kvs o = true ∧ allIn kvs n = true ∧ StM H H' a ∧ SwL H' f us, ?_, ?_⟩
      · refine ⟨_, rfl, _, rfl, d, n, kvs, rfl, hd6, hs, inn, by omega, fun H7 e7 => ⟨_, rfl, _, rfl, d, o, kvs, rfl, e7 _ _ hd6, hs, io, by omega, fun H8 e8 => ⟨_, _, rfl, rfl, _, rfl, ?_⟩⟩⟩
        have e8 := e7.trans e8
        refine ite2 (fun _ => ?_) (fun _ => ?_)
        · exact ⟨_, rfl, _, rfl, _, _, rfl, n, o, rfl, by omega, by omega, inn, io, st6.same e8, sw.same e8⟩
        · exact ⟨o, n, rfl, by omega, by omega, io, inn, st6.same e8, sw.same e8⟩
      clear st6 sw hd6 st5 st4
      rintro σ7 H7 ⟨o, n, rfl, lo, ln, io, inn, st7, sw⟩
      have hd7 := st7.1 _ _ hd nda
      refine ⟨_, rfl, _, rfl, d, n, kvs, rfl, hd7, hs, inn, by omega, fun H8 e8 => ⟨_, rfl, _, rfl, d, o, kvs, rfl, e8 _ _ hd7, hs, io, by omega, fun H9 e9 => ⟨_, _, rfl, rfl, _, rfl, ?_⟩⟩⟩
      have e9 := e8.trans e9
      have st9 := st7.same e9
      have sw9 := sw.same e9
      refine ite2 (fun hw => ?_) (fun _ => ?_)
      · obtain ⟨as, hfa, pa⟩ := id sw9
        refine ⟨_, rfl, .inl ⟨rfl, _, SqL.of hfa⟩, _, rfl, _, rfl, by show 2 ≤ sizeLine; decide, fun q hq => ?_⟩
        have e10 := Same.new (o := .tup [.str o, .str n]) hq
        have nqf : f ≠ q := ne_of_none hfa hq
        refine ⟨f, _, _, rfl, rfl, e10 _ _ hfa, ?_, ?_⟩
        · rw [List.length_map, paired_len pa]
          exact small1000 (by omega)
        · have sub : ∀ b u, (upd H9 q (.tup [.str o, .str n])) b = some u → b ≠ f → (upd (upd H9 q (.tup [.str o, .str n])) f (.lst (List.map V.ref as ++ [.ref q]))) b = some u := fun b u q n => by rw [upd_ne n]; exact q
          refine ⟨_, _, _, _, us ++ [(o, n)], rfl, (st9.new hq).mut hf nfa, ⟨as ++ [q], by rw [upd_same]; simp, ?_⟩, by rw [List.length_append, List.length_singleton]; omega, ?_⟩
          · refine paired_snoc (paired_imp (fun b pr t => sub _ _ (e10 _ _ t) (ne_of t hfa (by intro z; cases z))) pa) ?_
            exact sub _ _ upd_same (Ne.symm nqf)
          · intro pr hpr
            rcases List.mem_append.mp hpr with t | t
            · exact hok pr t
            · rw [List.mem_singleton.mp t]
              exact prOk_mk lo ln (by omega) io inn (of_decide_eq_true hw)
      · exact ⟨_, _, _, _, us, rfl, st9, sw9, by omega, hok⟩
    · rintro σ H2 ⟨x, y, v, u, us, rfl, st2, sw, hl, hok⟩
      exact ⟨_, rfl, k us f H2 st2 hf sw (by omega) hok⟩
theorem ok_lmovesS (T : Txt K mg A) : FnOk P w K mg base CX0 1 A.flaw_moves A.dlaw_moves ["_law_swaps_here", "_law_board_here"] spLMovesS := by
  refine T.Flaw_moves.ok sclaw_moves (fun vs H Q E h => ?_) (fun cdv Ar outer s H vs Q E hr h => ?_)
  · obtain ⟨l, z, ps, rfl, _⟩ := h
    rfl
  · obtain ⟨l, z, ps, rfl, hla, pl, hz10, pe, kQ⟩ := h
    obtain ⟨as, ha, pa⟩ := hla
    have hlen := paired_len pa
    refine ⟨_, (pss_cons (ps_set (i := 2) sclaw_moves.nd rfl (Or.inl rfl) (pe_lst pa_nil))
      (pss_cons (ps_for PassesOwn.never rfl (pi_list (pv 0)) (pg_tup (by rfl) (pgs_cons (pg_name (i := 3) sclaw_moves.nd rfl (Or.inl rfl)) (pgs_cons (pg_name (i := 4) sclaw_moves.nd rfl (Or.inl rfl)) pgs_nil)))
        (pss_one (ps_for PassesOwn.never rfl (pi_range1 (by rfl) T.z_range (pa_cons (pe_op op_add (pe_op op_sub (pe_callB call_len_str (by rfl) T.z_len PySem.boot_len (pa_cons (pv 1) pa_nil)) (pe_callB call_len_str (by rfl) T.z_len PySem.boot_len (pa_cons (pv 3) pa_nil))) pe_int) pa_nil)) (pg_name (i := 5) sclaw_moves.nd rfl (Or.inl rfl))
          (pss_one (ps_if (pt_cmpR op_eq (pe_slice sl_str (pv 1) (po_some (pv 5)) (po_some (pe_op op_add (pv 5) (pe_callB call_len_str (by rfl) T.z_len PySem.boot_len (pa_cons (pv 3) pa_nil))))) (pv 3) (nomark _)) (pss_one (ps_expr (pe_bm PySem.F.plainAttrs_list PySem.F.slot_list_append PySem.F.type_list_append mt_append (pv 2) (pa_cons (pe_op op_add_str (pe_op op_add_str (pe_slice sl_str (pv 1) po_none (po_some (pv 5))) (pv 4)) (pe_slice sl_str (pv 1) (po_some (pe_op op_add (pv 5) (pe_callB call_len_str (by rfl) T.z_len PySem.boot_len (pa_cons (pv 3) pa_nil)))) po_none)) pa_nil)))) pss_nil)))))
      (pss_one (ps_ret (pe_callB (SG.cr_sortS rfl) (by rfl) T.z_sorted (by decide +kernel) (pa_cons (pe_callTy (SG.cr_setL rfl) (by rfl) T.z_set (by decide +kernel) (pa_cons (pv 2) pa_nil)) pa_nil)))))), ?_⟩
    refine ⟨Nat.zero_le _, fun f hf => ?_⟩
    have hzl : z.length ≤ sizeLine := Nat.le_trans hz10 (by decide)
    refine ⟨_, rfl, l, rfl, ⟨_, SqL.of ((Same.new hf) _ _ ha)⟩,
      for_list (K := K) (a := l) (xs := as.map V.ref) (fun i σ H' => ∃ a b c, σ = [some (.ref l), some (.str z), some (.ref f), a, b, c] ∧ Same H H' ∧ H' f = some (.lst ((genS (ps.take i) z).map V.str)))
      ⟨_, _, _, rfl, Same.new hf, upd_same⟩ (fun i σ H' _ ⟨_, _, _, _, e, _⟩ => SqL.of (e _ _ ha)) ?_ ?_⟩
    · rintro i v σ H1 hv ⟨a, b, c, rfl, e, hfl⟩
      obtain ⟨q, hq, rfl⟩ := ref_ix hv
      obtain ⟨⟨o, n⟩, hpr, hat⟩ := paired_at pa hq
      obtain ⟨o1, o4, n4⟩ := pe _ (List.mem_of_getElem? hpr)
      have o1 : 1 ≤ o.length := o1
      have o4 : o.length ≤ 4 := o4
      have n4 : n.length ≤ 4 := n4
      have hi : i < ps.length := (List.getElem?_eq_some_iff.mp hpr).1
      refine ⟨q, [.str o, .str n], rfl, SqT.of (e _ _ hat), rfl, _, _, rfl, _, _, rfl, rfl, ?_⟩
      refine ⟨_, rfl, z, rfl, hzl, _, rfl, o, rfl, Nat.le_trans o4 (by decide), _, _, rfl, rfl, _, _, rfl, rfl, _, rfl, by omega, by omega, for_range (lo := 0) (n := ((z.length : Int) - (o.length : Int) + 1).toNat) (fun j σ H' => ∃ x, σ = [some (.ref l), some (.str z), some (.ref f), some (.str o), some (.str n), x] ∧ Same H H' ∧ H' f = some (.lst ((genS (ps.take i) z ++ turnS z (o, n) j).map V.str)))
        ⟨_, rfl, e, by rw [hfl]; simp [turnS]⟩ ?_ ?_⟩
      · rintro j σ H2 hj ⟨x, rfl, e2, hf2⟩
        have h0j : (0 : Int) + (j : Int) = (j : Int) := Int.zero_add _
        refine ⟨_, rfl, _, rfl, _, rfl, _, rfl, _, rfl, o, rfl, Nat.le_trans o4 (by decide), _, _, rfl, rfl, _, rfl, z, rfl, hzl, _, rfl, rfl, _, rfl, ?_⟩
        rw [h0j]
        show if decide (V.str (cutS z (some (j : Int)) (some ((j : Int) + (o.length : Int)))) = V.str o) = true then _ else _
        rw [hit_cut (by omega)]
        have g1 := genS_len z (ps.take i)
        have g2 := turnS_len z (o, n) j
        have g3 : (ps.take i).length ≤ 5 := by rw [List.length_take]; omega
        have g4 : (ps.take i).length * z.length ≤ 5 * 10 := Nat.mul_le_mul g3 hz10
        cases hh : hit z o j with
        | true =>
          refine iteT ⟨_, rfl, .inl ⟨rfl, _, SqL.of hf2⟩, _, rfl, _, rfl, _, rfl, z, rfl, hzl, _, rfl, _, _, rfl, rfl, ?_, ?_⟩
          · have := cutS_length z none (some (j : Int))
            exact Nat.le_trans (by omega : _ ≤ 14) (by decide)
          refine ⟨_, rfl, _, rfl, _, rfl, o, rfl, Nat.le_trans o4 (by decide), _, _, rfl, rfl, _, rfl, z, rfl, hzl, _, _, rfl, rfl, ?_, f, _, _, rfl, rfl, hf2, ?_, ?_⟩
          · rw [str_len_app]
            have := cutS_length z none (some (j : Int))
            have := cutS_length z (some ((j : Int) + (o.length : Int))) none
            exact Nat.le_trans (by omega : _ ≤ 24) (by decide)
          · rw [List.length_map, List.length_append]
            exact small1000 (by omega)
          · refine ⟨_, rfl, e2.mut hf, ?_⟩
            rw [upd_same, turnS_succ, hh]
            simp [swAt]
        | false =>
          refine iteF ⟨_, rfl, e2, ?_⟩
          rw [hf2, turnS_succ, hh]
          simp
      · rintro σ H2 ⟨x, rfl, e2, hf2⟩
        refine ⟨_, _, _, rfl, e2, ?_⟩
        rw [hf2, take_snoc hpr, genS_snoc]
        by_cases hlt : o.length ≤ z.length
        · rw [turnS_short (m := ((z.length : Int) - (o.length : Int) + 1).toNat) (by omega) (by show z.length < _ + o.length; omega)]
        · have e0 : ((z.length : Int) - (o.length : Int) + 1).toNat = 0 := by omega
          rw [e0, turnS_short (m := 0) (Nat.zero_le _) (by show z.length < 0 + o.length; omega)]
    · rintro σ H1 ⟨a, b, c, rfl, e, hfl⟩
      rw [List.length_map, hlen, List.take_length] at hfl
      have g1 := genS_len z ps
      have g4 : ps.length * z.length ≤ 5 * 10 := Nat.mul_le_mul pl hz10
      refine ⟨_, rfl, f, (genS ps z).map Sum.inr, rfl, by rw [inr_map]; exact SqL.of hfl, by rw [List.length_map]; omega, fun q ks hq nd hm hkl => ?_⟩
      refine ⟨q, ks, rfl, upd_same, fun k hk => ?_, ?_, fun ys r hs hp hr => ?_⟩
      · obtain ⟨x, _, e⟩ := List.mem_map.mp ((hm k).mp hk)
        exact ⟨x, e.symm⟩
      · rw [List.length_map] at hkl
        omega
      · have e3 : Same H (upd H1 q (SG.SetO P w q ks)) := e.trans (Same.new hq)
        exact kQ _ r ys (e3.trans (Same.new hr)) (e3.free hr) (sortedOf_of hs hp nd hm) upd_same
theorem ok_lboard (T : Txt K mg A) : FnOk P w K mg base CX0 3 A.flaw_board A.dlaw_board ["_law_state_here", "_law_signs_here"] spLBoard := by
  have Glaw_next : FnOk P w K mg base CX0 1 A.flaw_next A.dlaw_next ["_law_state_here", "_law_many"] spLawNext := ok_next T
  have Glaw_row : FnOk P w K mg base CX0 2 A.flaw_row A.dlaw_row ["_law_state_here", "_law_signs_here", "_law_many"] spLRow := ok_lrow T
  refine T.Flaw_board.ok sclaw_board (fun vs H Q E h => ?_) (fun cdv Ar outer s H vs Q E hr h => ?_)
  · obtain ⟨a, d, kvs, rfl, _⟩ := h
    rfl
  · obtain ⟨a, d, kvs, rfl, st, hd, hs, l1, l8, k⟩ := h
    refine ⟨_, (pss_cons (ps_set (i := 2) sclaw_board.nd rfl (Or.inl rfl) (pe_call Glaw_next (hr.mono (by decide)) rfl T.mlaw_next T.Flaw_next.kp T.Blaw_next .nil pass0 (pa_cons (pv 0) (pa_cons pe_int pa_nil))))
      (pss_cons (ps_if (pt_cmpR op_eq (pv 2) pe_int (nomark _)) (pss_one (ps_ret (pe_ix ix_list (pe_lst (pa_cons pe_non (pa_cons pe_int (pa_cons (pe_lst (pa_cons pe_str pa_nil)) (pa_cons pe_str (pa_cons (pe_call Glaw_row (hr.mono (by decide)) rfl T.mlaw_row T.Flaw_row.kp T.Blaw_row .nil pass0 (pa_cons (pv 0) (pa_cons (pv 1) (pa_cons pe_int pa_nil)))) (pa_cons (pe_tup (pa_cons pe_str pa_nil)) (pa_cons pe_str (pa_cons pe_bl pa_nil))))))))) (pe_call Glaw_next (hr.mono (by decide)) rfl T.mlaw_next T.Flaw_next.kp T.Blaw_next .nil pass0 (pa_cons (pv 0) (pa_cons pe_int pa_nil))) (fun _ _ => rfl)))) pss_nil)
      (pss_one (ps_ret (pe_call Glaw_row (hr.mono (by decide)) rfl T.mlaw_row T.Flaw_row.kp T.Blaw_row .nil pass0 (pa_cons (pv 0) (pa_cons (pv 1) (pa_cons (pe_call Glaw_next (hr.mono (by decide)) rfl T.mlaw_next T.Flaw_next.kp T.Blaw_next .nil pass0 (pa_cons (pv 0) (pa_cons pe_int pa_nil))) pa_nil)))))))), ?_⟩
    have nda := st.ne hd
    have st := st.refl
    refine ⟨_, rfl, ?_⟩
    refine L2.StM.next (m := 12) st (by decide) ?_
    intro r H1 z0 z1 st1 aw1
    refine ⟨_, rfl, rfl, _, rfl, ?_⟩
    refine ite2 (fun _ => ?_) (fun _ => ?_)
    · refine ⟨by show 1 ≤ sizeLine; decide, fun p1 g1 => ⟨_, rfl, _, rfl, ?_⟩⟩
      have n1 := st1.away g1
      have st2 := st1.new (o := .lst [.str "a"]) g1
      refine ⟨a, d, 11, kvs, rfl, st2.bare, st2.1 _ _ hd nda, hs, l1, l8, by decide, by decide, fun z H3 st3 lz iz => ?_⟩
      have hp1 : H3 p1 = some (.lst [.str "a"]) := st3.1 _ _ upd_same n1
      have st3 := st2.trans st3
      refine ⟨by show 1 ≤ sizeLine; decide, fun p2 g2 => ⟨by show 8 ≤ sizeLine; decide, fun p3 g3 => ⟨_, rfl, ?_⟩⟩⟩
      have n2 := st3.away g2
      have hp2 : (upd H3 p2 (.tup [.str "a"])) p2 = some (.tup [.str "a"]) := upd_same
      have e4 := Same.new (o := .tup [.str "a"]) g2
      have st4 := st3.same e4
      have n3 := st4.away g3
      have e5 := Same.new (o := .lst [.non, .int 5, .ref p1, .str "?", .str z, .ref p2, .str "a\t", .bl true]) g3
      have st5 := st4.same e5
      have hp1 := e5 _ _ (e4 _ _ hp1)
      have hp2 := e5 _ _ hp2
      refine L2.StM.next (m := 8) st5 (by decide) ?_
      intro r8 H7 b0 b1 st7 aw
      have hp3 : H7 p3 = some (.lst [.non, .int 5, .ref p1, .str "?", .str z, .ref p2, .str "a\t", .bl true]) := (aw _ n3).trans upd_same
      have hp1 : H7 p1 = some (.lst [.str "a"]) := (aw _ n1).trans hp1
      have hp2 : H7 p2 = some (.tup [.str "a"]) := (aw _ n2).trans hp2
      obtain rfl | rfl | rfl | rfl | rfl | rfl | rfl | rfl : r8 = 0 ∨ r8 = 1 ∨ r8 = 2 ∨ r8 = 3 ∨ r8 = 4 ∨ r8 = 5 ∨ r8 = 6 ∨ r8 = 7 := by omega
      · exact ⟨p3, _, _, _, rfl, rfl, SqL.of hp3, rfl, k _ _ st7 (.inr (.inl rfl))⟩
      · exact ⟨p3, _, _, _, rfl, rfl, SqL.of hp3, rfl, k _ _ st7 (.inr (.inr (.inl ⟨_, rfl⟩)))⟩
      · exact ⟨p3, _, _, _, rfl, rfl, SqL.of hp3, rfl, k _ _ st7 (.inr (.inr (.inr (.inr ⟨p1, n1, rfl, .inl ⟨_, hp1⟩⟩))))⟩
      · exact ⟨p3, _, _, _, rfl, rfl, SqL.of hp3, rfl, k _ _ st7 (.inl ⟨_, rfl, by decide⟩)⟩
      · exact ⟨p3, _, _, _, rfl, rfl, SqL.of hp3, rfl, k _ _ st7 (.inl ⟨z, rfl, by omega⟩)⟩
      · exact ⟨p3, _, _, _, rfl, rfl, SqL.of hp3, rfl, k _ _ st7 (.inr (.inr (.inr (.inr ⟨p2, n2, rfl, .inr ⟨_, hp2⟩⟩))))⟩
      · exact ⟨p3, _, _, _, rfl, rfl, SqL.of hp3, rfl, k _ _ st7 (.inl ⟨_, rfl, by decide⟩)⟩
      · exact ⟨p3, _, _, _, rfl, rfl, SqL.of hp3, rfl, k _ _ st7 (.inr (.inr (.inr (.inl ⟨_, rfl⟩))))⟩
    · refine ⟨_, rfl, _, rfl, _, rfl, ?_⟩
      refine L2.StM.next (m := 11) st1 (by decide) ?_
      intro m H2 m0 m1 st2 aw2
      exact ⟨a, d, m, kvs, rfl, st2.bare, st2.1 _ _ hd nda, hs, l1, l8, m0, by omega, fun z H3 st3 lz iz => k _ _ (st2.trans st3) (.inl ⟨z, rfl, by omega⟩)⟩
end
end K71
namespace K71
open PySem L2
/-- the parts of a rule of swaps that the laws draw -/
abbrev Ix := Kvs × List Pr × List Pr
structure IxOk (i : Ix) : Prop where
  sg : SgOk i.1
  ul : i.2.1.length ≤ 5
  dl : i.2.2.length ≤ 5
  uo : ∀ pr ∈ i.2.1, prOk i.1 pr = true
  do' : ∀ pr ∈ i.2.2, prOk i.1 pr = true
def O1 (A : Ad) (i : Ix) : Hp → Addr → Prop := SwAt A.cSwaps i.1 i.2.1 i.2.2
def O2 (A : Ad) (i : Ix) : Hp → Addr → Prop := TurAt A.cTurned (O1 A i)
def O3 (A : Ad) (i : Ix) : Hp → Addr → Prop := TurAt A.cTurned (O2 A i)
def gd (i : Ix) : V → Bool := rowOk i.1 10
def ch (i : Ix) : Bool → Str → List Str := chS i.2.1 i.2.2
theorem TurAt.same {C : Addr} {O : Hp → Addr → Prop} (hS : ∀ H H' p, O H p → Same H H' → O H' p) {H H' : Hp} {p : Addr} (h : TurAt C O H p) (e : Same H H') : TurAt C O H' p := let ⟨dx, q, h1, h2⟩ := h; ⟨dx, q, e _ _ h1, hS _ _ _ h2 e⟩
theorem O1.same {A : Ad} {i : Ix} (H H' : Hp) (p : Addr) (h : O1 A i H p) (e : Same H H') : O1 A i H' p := SwAt.same h e
theorem O2.same {A : Ad} {i : Ix} (H H' : Hp) (p : Addr) (h : O2 A i H p) (e : Same H H') : O2 A i H' p := TurAt.same O1.same h e
theorem O3.same {A : Ad} {i : Ix} (H H' : Hp) (p : Addr) (h : O3 A i H p) (e : Same H H') : O3 A i H' p := TurAt.same O2.same h e
theorem O1.ins {A : Ad} {i : Ix} (H : Hp) (p : Addr) (h : O1 A i H p) : ∃ dx fs, H p = some (.ins A.cSwaps dx fs) ∧ fs.lookup ("is_board" : Str) = none ∧ fs.lookup ("changed" : Str) = none ∧ fs.lookup ("moves" : Str) = none :=
  let ⟨dx, fs, h1, no⟩ := SwAt.sig h |>.no
  ⟨dx, fs, h1, no _ (by decide) (by decide), no _ (by decide) (by decide), no _ (by decide) (by decide)⟩
theorem tur_ins {A : Ad} {O : Hp → Addr → Prop} (H : Hp) (p : Addr) (h : TurAt A.cTurned O H p) : ∃ dx fs, H p = some (.ins A.cTurned dx fs) ∧ fs.lookup ("is_board" : Str) = none ∧ fs.lookup ("changed" : Str) = none ∧ fs.lookup ("moves" : Str) = none :=
  let ⟨dx, q, h1, _⟩ := h
  ⟨dx, _, h1, rfl, rfl, rfl⟩
section
variable {P : Program} {w : World} {K : PySem.W.Frag} {mg : Str → Option Value} {base : Heap} {A : Ad}
theorem isb1 (T : Txt K mg A) (i : Ix) : FnOk P w K mg base CX0 2 A.fSwaps_is_board A.dSwaps_is_board ["self", "board"] (spIsB K (O1 A i) (gd i)) := ok_sw_is_board T _ _ _
theorem isb2 (T : Txt K mg A) (i : Ix) : FnOk P w K mg base CX0 3 A.fTurned_is_board A.dTurned_is_board ["self", "board"] (spIsB K (O2 A i) (gd i)) :=
  ok_tur_is_board T T.clSwaps T.hSwaps_is_board (isb1 T i) T.BSwaps_is_board fun H p h => let ⟨dx, fs, h1, h2, _⟩ := O1.ins H p h; ⟨dx, fs, h1, h2⟩
theorem isb3 (T : Txt K mg A) (i : Ix) : FnOk P w K mg base CX0 4 A.fTurned_is_board A.dTurned_is_board ["self", "board"] (spIsB K (O3 A i) (gd i)) :=
  ok_tur_is_board T T.clTurned T.hTurned_is_board (isb2 T i) T.BTurned_is_board fun H p h => let ⟨dx, fs, h1, h2, _⟩ := tur_ins H p h; ⟨dx, fs, h1, h2⟩
theorem chg1 (T : Txt K mg A) {i : Ix} (h : IxOk i) : FnOk P w K mg base CX0 1 A.fSwaps_changed A.dSwaps_changed ["self", "board", "hand"] (spChg (O1 A i) (gd i) (ch i)) :=
  ok_sw_changed T _ _ _ (Nat.le_succ_of_le h.ul) (Nat.le_succ_of_le h.dl) (fun pr q => let u := prOk_use (h.uo pr q); ⟨u.1, u.2.1⟩) fun pr q => let u := prOk_use (h.do' pr q); ⟨u.1, u.2.1⟩
theorem chg2 (T : Txt K mg A) {i : Ix} (h : IxOk i) : FnOk P w K mg base CX0 2 A.fTurned_changed A.dTurned_changed ["self", "board", "hand"] (spChg (O2 A i) (gd i) fun u z => ch i (!u) z) :=
  ok_tur_changed T T.clSwaps T.hSwaps_changed (chg1 T h) T.BSwaps_changed fun H p h => let ⟨dx, fs, h1, _, h2, _⟩ := O1.ins H p h; ⟨dx, fs, h1, h2⟩
theorem chg3 (T : Txt K mg A) {i : Ix} (h : IxOk i) : FnOk P w K mg base CX0 3 A.fTurned_changed A.dTurned_changed ["self", "board", "hand"] (spChg (O3 A i) (gd i) (ch i)) := by
  have g := ok_tur_changed (P := P) (w := w) (base := base) T T.clTurned T.hTurned_changed (chg2 (P := P) (w := w) (base := base) T h) T.BTurned_changed fun H p h => let ⟨dx, fs, h1, _, h2, _⟩ := tur_ins H p h; ⟨dx, fs, h1, h2⟩
  have e : (fun (u : Bool) z => ch i (!(!u)) z) = ch i := by funext u z; rw [Bool.not_not]
  rw [← e]
  exact g
theorem ch_len {i : Ix} (h : IxOk i) (u : Bool) (z : Str) (g : gd i (.str z) = true) : (ch i u z).length < 64 := chS_len (Nat.le_succ_of_le h.ul) (Nat.le_succ_of_le h.dl) u g
theorem told1 (T : Txt K mg A) {i : Ix} (h : IxOk i) : FnOk P w K mg base CX0 6 A.flaw_told A.dlaw_told ["_law_rule", "_law_board_here", "_law_hand"] (spLawTold K (O1 A i) (gd i) (ch i)) :=
  ok_told T T.clSwaps T.hSwaps_moves (ok_moves T T.clSwaps T.hSwaps_is_board ((isb1 T i).mono (by decide)) T.BSwaps_is_board T.hSwaps_changed ((chg1 T h).mono (by decide)) T.BSwaps_changed
    (fun H p h => let ⟨dx, fs, h1, h2, h3, _⟩ := O1.ins H p h; ⟨dx, fs, h1, h2, h3⟩) O1.same rowOk_is fun u z g => ch_len h u z g) T.BRule_moves fun H p h => let ⟨dx, fs, h1, _, _, h2⟩ := O1.ins H p h; ⟨dx, fs, h1, h2⟩
theorem told2 (T : Txt K mg A) {i : Ix} (h : IxOk i) : FnOk P w K mg base CX0 6 A.flaw_told A.dlaw_told ["_law_rule", "_law_board_here", "_law_hand"] (spLawTold K (O2 A i) (gd i) fun u z => ch i (!u) z) :=
  ok_told T T.clTurned T.hTurned_moves (ok_moves T T.clTurned T.hTurned_is_board ((isb2 T i).mono (by decide)) T.BTurned_is_board T.hTurned_changed ((chg2 T h).mono (by decide)) T.BTurned_changed
    (fun H p h => let ⟨dx, fs, h1, h2, h3, _⟩ := tur_ins H p h; ⟨dx, fs, h1, h2, h3⟩) O2.same rowOk_is fun u z g => ch_len h (!u) z g) T.BRule_moves fun H p h => let ⟨dx, fs, h1, _, _, h2⟩ := tur_ins H p h; ⟨dx, fs, h1, h2⟩
theorem told3 (T : Txt K mg A) {i : Ix} (h : IxOk i) : FnOk P w K mg base CX0 6 A.flaw_told A.dlaw_told ["_law_rule", "_law_board_here", "_law_hand"] (spLawTold K (O3 A i) (gd i) (ch i)) :=
  ok_told T T.clTurned T.hTurned_moves (ok_moves T T.clTurned T.hTurned_is_board (isb3 T i) T.BTurned_is_board T.hTurned_changed ((chg3 T h).mono (by decide)) T.BTurned_changed
    (fun H p h => let ⟨dx, fs, h1, h2, h3, _⟩ := tur_ins H p h; ⟨dx, fs, h1, h2, h3⟩) O3.same rowOk_is fun u z g => ch_len h u z g) T.BRule_moves fun H p h => let ⟨dx, fs, h1, _, _, h2⟩ := tur_ins H p h; ⟨dx, fs, h1, h2⟩
theorem ch_lay {i : Ix} (h : IxOk i) (z : Str) (u : Bool) (g : gd i (.str z) = true) (y : Str) (hy : y ∈ ch i u z) : PyData.canLay0 (.str y) = true := by
  obtain ⟨_, hz⟩ := rowOk_str g
  refine genS_lay h.sg hz (fun pr hp => ?_) hy
  cases u
  · exact (prOk_use (h.do' pr hp)).2.2.2.1
  · exact (prOk_use (h.uo pr hp)).2.2.2.1
end
end K71
namespace K71
open PySem L2
def spLaw (K : PySem.W.Frag) : Sp := fun vs H Q _ => ∃ (a : Addr) (ns : List Int), vs = [.ref a] ∧ SqL K H a (ns.map V.int) ∧ ns.length ≤ 63 ∧ ∀ H', Q (.bl true) H'
section
variable {P : Program} {w : World} {K : PySem.W.Frag} {mg : Str → Option Value} {base : Heap} {A : Ad}
theorem ok_law (T : Txt K mg A) : FnOk P w K mg base CX0 12 A.flaw A.dlaw ["_law_script"] (spLaw K) := by
  have Glaw_cell : FnOk P w K mg base CX0 1 A.flaw_cell A.dlaw_cell ["_law_script", "_law_k"] (spLawCell K) := ok_cell T
  have Glaw_next : FnOk P w K mg base CX0 1 A.flaw_next A.dlaw_next ["_law_state_here", "_law_many"] spLawNext := ok_next T
  have Glaw_state : FnOk P w K mg base CX0 1 A.flaw_state A.dlaw_state ["_law_cell_here", "_law_k"] spLawState := ok_state T
  have Glaw_signs : FnOk P w K mg base CX0 2 A.flaw_signs A.dlaw_signs ["_law_state_here"] spLSigns := ok_lsigns T
  have Glaw_swaps : FnOk P w K mg base CX0 3 A.flaw_swaps A.dlaw_swaps ["_law_state_here", "_law_signs_here"] spLSwaps := ok_lswaps T
  have Glaw_moves : FnOk P w K mg base CX0 1 A.flaw_moves A.dlaw_moves ["_law_swaps_here", "_law_board_here"] spLMovesS := ok_lmovesS T
  have Glaw_board : FnOk P w K mg base CX0 3 A.flaw_board A.dlaw_board ["_law_state_here", "_law_signs_here"] spLBoard := ok_lboard T
  have GSwaps___init__ : FnOk P w K mg base (L2.CX P w) 4 A.fSwaps___init__ A.dSwaps___init__ ["self", "signs", "ups", "downs"] (spSwInit A.cSwaps) := ok_sw_init T
  have GTurned___init__ : FnOk P w K mg base (L2.CX P w) 1 A.fTurned___init__ A.dTurned___init__ ["self", "rule"] (spTurInit K A.cTurned A.cRule (.ref A.cNoRule)) := ok_tur_init T
  have GSwaps_is_board : FnOk P w K mg base CX0 2 A.fSwaps_is_board A.dSwaps_is_board ["self", "board"] (fun vs H Q E => ∃ i : Ix, IxOk i ∧ spIsB K (O1 A i) (gd i) vs H Q E) := FnOk.all fun i _ => isb1 T i
  have GTurned_is_board : FnOk P w K mg base CX0 3 A.fTurned_is_board A.dTurned_is_board ["self", "board"] (fun vs H Q E => ∃ i : Ix, IxOk i ∧ spIsB K (O2 A i) (gd i) vs H Q E) := FnOk.all fun i _ => isb2 T i
  have Glaw_told : FnOk P w K mg base CX0 6 A.flaw_told A.dlaw_told ["_law_rule", "_law_board_here", "_law_hand"] (fun vs H Q E => ∃ i : Ix, IxOk i ∧ spLawTold K (O1 A i) (gd i) (ch i) vs H Q E) := FnOk.all fun i h => told1 T h
  have GtoldM : FnOk P w K mg base CX0 6 A.flaw_told A.dlaw_told ["_law_rule", "_law_board_here", "_law_hand"] (fun vs H Q E => ∃ i : Ix, IxOk i ∧ spLawTold K (O2 A i) (gd i) (fun u z => ch i (!u) z) vs H Q E) := FnOk.all fun i h => told2 T h
  have GtoldN : FnOk P w K mg base CX0 6 A.flaw_told A.dlaw_told ["_law_rule", "_law_board_here", "_law_hand"] (fun vs H Q E => ∃ i : Ix, IxOk i ∧ spLawTold K (O3 A i) (gd i) (ch i) vs H Q E) := FnOk.all fun i h => told3 T h
  refine T.Flaw.ok sclaw (fun vs H Q E h => ?_) (fun cdv Ar outer s H vs Q E hr h => ?_)
  · obtain ⟨a, ns, rfl, _⟩ := h
    rfl
  · obtain ⟨a, ns, rfl, hS, hlen, k⟩ := h
    refine ⟨_, (pss_cons (ps_set (i := 1) sclaw.nd rfl (Or.inl rfl) (pe_call Glaw_state (hr.mono (by decide)) rfl T.mlaw_state T.Flaw_state.kp T.Blaw_state .nil pass0 (pa_cons (pe_call Glaw_cell (hr.mono (by decide)) rfl T.mlaw_cell T.Flaw_cell.kp T.Blaw_cell .nil pass0 (pa_cons (pv 0) (pa_cons pe_int pa_nil))) (pa_cons pe_int pa_nil))))
      (pss_cons (ps_set (i := 2) sclaw.nd rfl (Or.inr rfl) (pe_call Glaw_signs (hr.mono (by decide)) rfl T.mlaw_signs T.Flaw_signs.kp T.Blaw_signs .nil pass0 (pa_cons (pv 1) pa_nil)))
      (pss_cons (ps_set (i := 3) sclaw.nd rfl (Or.inl rfl) (pe_call Glaw_swaps (hr.mono (by decide)) rfl T.mlaw_swaps T.Flaw_swaps.kp T.Blaw_swaps .nil pass0 (pa_cons (pv 1) (pa_cons (pv 2) pa_nil))))
      (pss_cons (ps_set (i := 4) sclaw.nd rfl (Or.inl rfl) (pe_call Glaw_swaps (hr.mono (by decide)) rfl T.mlaw_swaps T.Flaw_swaps.kp T.Blaw_swaps .nil pass0 (pa_cons (pv 1) (pa_cons (pv 2) pa_nil))))
      (pss_cons (ps_set (i := 5) sclaw.nd rfl (Or.inl rfl) (pe_lst (pa_cons (pe_callTy call_dictD (by rfl) T.z_dict (by decide +kernel) (pa_cons (pv 2) pa_nil)) (pa_cons (pe_callTy call_list_of (by rfl) T.z_list (by decide +kernel) (pa_cons (pv 3) pa_nil)) (pa_cons (pe_callTy call_list_of (by rfl) T.z_list (by decide +kernel) (pa_cons (pv 4) pa_nil)) pa_nil)))))
      (C8.pss_cut (ps_set (i := 6) sclaw.nd rfl (Or.inl rfl) (pe_make T.mkSwaps GSwaps___init__ (hr.mono (by decide)) rfl T.mSwaps T.BSwaps___init__ .nil passL (pa_cons (pe_ix ix_list (pv 5) pe_int (fun _ _ => rfl)) (pa_cons (pe_ix ix_list (pv 5) pe_int (fun _ _ => rfl)) (pa_cons (pe_ix ix_list (pv 5) pe_int (fun _ _ => rfl)) pa_nil)))))
      (C8.pss_cut (ps_if (pt_cmpR (op_neV hr.units) (pv 5) (pe_lst (pa_cons (pv 2) (pa_cons (pv 3) (pa_cons (pv 4) pa_nil)))) (nomark _)) (pss_one (ps_ret pe_bl)) pss_nil)
      (pss_cons (ps_expr (pe_dclear (pe_ix ix_list (pv 5) pe_int (fun _ _ => rfl))))
      (pss_cons (ps_expr (pe_bm PySem.F.plainAttrs_list PySem.F.slot_list_append PySem.F.type_list_append mt_append (pe_ix ix_list (pv 5) pe_int (fun _ _ => rfl)) (pa_cons (pe_tup (pa_cons pe_str (pa_cons pe_str pa_nil))) pa_nil)))
      (pss_cons (ps_expr (pe_bm0 PySem.F.plainAttrs_list PySem.F.slot_list_clear PySem.F.type_list_clear mt_clear (pe_ix ix_list (pv 5) pe_int (fun _ _ => rfl))))
      (C8.pss_cut (ps_set (i := 7) sclaw.nd rfl (Or.inl rfl) (pe_make T.mkTurned GTurned___init__ (hr.mono (by decide)) rfl T.mTurned T.BTurned___init__ .nil passL (pa_cons (pv 6) pa_nil)))
      (pss_cons (ps_for PassesOwn.never rfl (pi_range2 (by rfl) T.z_range (pa_cons pe_int (pa_cons (pe_callB call_len_seq (by rfl) T.z_len PySem.boot_len (pa_cons (pv 0) pa_nil)) pa_nil))) (pg_name (i := 8) sclaw.nd rfl (Or.inl rfl))
        (pss_cons (ps_set (i := 1) sclaw.nd rfl (Or.inl rfl) (pe_call Glaw_state (hr.mono (by decide)) rfl T.mlaw_state T.Flaw_state.kp T.Blaw_state .nil pass0 (pa_cons (pe_ix ix_list (pv 0) (pv 8) (fun _ _ => rfl)) (pa_cons (pv 8) pa_nil))))
        (pss_cons (ps_set (i := 9) sclaw.nd rfl (Or.inl rfl) (pe_call Glaw_board (hr.mono (by decide)) rfl T.mlaw_board T.Flaw_board.kp T.Blaw_board .nil pass0 (pa_cons (pv 1) (pa_cons (pv 2) pa_nil))))
        (C8.pss_cut (ps_set (i := 10) sclaw.nd rfl (Or.inl rfl) (pe_ix ix_list (pe_lst (pa_cons pe_str (pa_cons pe_str (pa_cons pe_str (pa_cons pe_str (pa_cons pe_non (pa_cons pe_str (pa_cons (pe_tup (pa_cons pe_str pa_nil)) (pa_cons (pe_lst (pa_cons pe_str pa_nil)) pa_nil))))))))) (pe_call Glaw_next (hr.mono (by decide)) rfl T.mlaw_next T.Flaw_next.kp T.Blaw_next .nil pass0 (pa_cons (pv 1) (pa_cons pe_int pa_nil))) (fun _ _ => rfl)))
        (C8.pss_cut (ps_set (i := 11) sclaw.nd rfl (Or.inl rfl) (pe_and (pe_callB call_isi (by rfl) T.z_isinstance boot_isi (pa_cons (pv 9) (pa_cons (pe_gT (n := "str") T.z_str) pa_nil))) (pe_and (pe_cmpR op_lt (pe_callB call_len_str (by rfl) T.z_len PySem.boot_len (pa_cons (pv 9) pa_nil)) pe_int (nomark _)) (pe_one (pe_cmpR (op_eqD hr.units) (pe_lc (own := [("_law_sign", 15)]) (g := gName 15) rfl sclaw.nd (pi_str (pv 9)) (blkOk_by (N := ["_law_script", "_law_state_here", "_law_signs_here", "_law_ups", "_law_downs", "_law_handed", "_law_rule", "_law_mirror", "_law_k", "_law_board_here", "_law_hand", "_law_good", "_law_found", "_law_due", "_law_other", "_law_sign"]) (sc := defScope slaw) (by decide +kernel)) (fun _ _ _ _ _ => pg_name (i := 15) sclaw.nd rfl (Or.inl rfl)) (fun _ _ _ _ _ => (pts_one (pt_dninC (by exact hu_of hr) (pv 15) (pv 2) (by rfl)))) (fun _ _ _ _ _ => pe_int)) (pe_lst pa_nil) (nomark _))))))
        (C8.pss_cut (ps_set (i := 12) sclaw.nd rfl (Or.inl rfl) (pe_lst (pa_cons (pe_meth (pv 6) T.clSwaps T.hSwaps_is_board GSwaps_is_board (hr.mono (by decide)) T.BSwaps_is_board .nil pass0 (pa_cons (pv 9) pa_nil)) (pa_cons (pe_meth (pv 7) T.clTurned T.hTurned_is_board GTurned_is_board (hr.mono (by decide)) T.BTurned_is_board .nil pass0 (pa_cons (pv 9) pa_nil)) pa_nil))))
        (C8.pss_cut (ps_if (PW.pt (pw_or (pt_cmpR (op_neD hr.units) (pv 12) (pe_lst (pa_cons (pv 11) (pa_cons (pv 11) pa_nil))) (nomark _)) (pw_or (pt_not (pt_val (pe_callB call_isi (by rfl) T.z_isinstance boot_isi (pa_cons (pe_ix ix_list (pv 12) pe_int (fun _ _ => rfl)) (pa_cons (pe_gT (n := "bool") T.z_bool) pa_nil))))) (pw_or1 (pt_not (pt_val (pe_callB call_isi (by rfl) T.z_isinstance boot_isi (pa_cons (pe_ix ix_list (pv 12) pe_int (fun _ _ => rfl)) (pa_cons (pe_gT (n := "bool") T.z_bool) pa_nil))))))))) (pss_one (ps_ret pe_bl)) pss_nil)
        (pss_cons (ps_set (i := 12) sclaw.nd rfl (Or.inl rfl) (pe_call Glaw_told (hr.mono (by decide)) rfl T.mlaw_told T.Flaw_told.kp T.Blaw_told .nil pass0 (pa_cons (pv 6) (pa_cons (pv 9) (pa_cons (pv 10) pa_nil)))))
        (C8.pss_cut (ps_if (PW.pt (pw_or (pt_not (pt_val (pv 11))) (pw_or1 (pt_cmpR (op_notInD (Room.u65 hr)) (pv 10) (pe_lst (pa_cons pe_str (pa_cons pe_str pa_nil))) (by rfl))))) (pss_cons (ps_if (PW.pt (pw_or (pt_cmpR (op_neD hr.units) (pv 12) (pe_ix ix_list (pe_lst (pa_cons pe_str (pa_cons pe_str pa_nil))) (pe_callTy call_int1 (by rfl) T.z_int (by decide +kernel) (pa_cons (pe_not (pv 11)) pa_nil)) (fun _ _ => rfl)) (nomark _)) (pw_or1 (pt_cmpR (op_neD hr.units) (pe_call GtoldM (hr.mono (by decide)) rfl T.mlaw_told T.Flaw_told.kp T.Blaw_told .nil pass0 (pa_cons (pv 7) (pa_cons (pv 9) (pa_cons (pv 10) pa_nil)))) (pv 12) (nomark _))))) (pss_one (ps_ret pe_bl)) pss_nil)
          (pss_one ps_continue)) pss_nil)
        (pss_cons (ps_set (i := 13) sclaw.nd rfl (Or.inl rfl) (pe_call Glaw_moves (hr.mono (by decide)) rfl T.mlaw_moves T.Flaw_moves.kp T.Blaw_moves .nil pass0 (pa_cons (pe_ix ix_list (pe_lst (pa_cons (pv 3) (pa_cons (pv 4) pa_nil))) (pe_callTy call_int1 (by rfl) T.z_int (by decide +kernel) (pa_cons (pe_cmpR op_eq (pv 10) pe_str (nomark _)) pa_nil)) (fun _ _ => rfl)) (pa_cons (pv 9) pa_nil))))
        (pss_cons (ps_if (PW.pt (pw_or (pt_not (pt_val (pe_callB call_isi (by rfl) T.z_isinstance boot_isi (pa_cons (pv 12) (pa_cons (pe_gT (n := "list") T.z_list) pa_nil))))) (pw_or1 (pt_cmpR (op_neD hr.units) (pv 12) (pv 13) (nomark _))))) (pss_one (ps_ret pe_bl)) pss_nil)
        (pss_cons (ps_set (i := 14) sclaw.nd rfl (Or.inl rfl) (pe_ix ix_list (pe_lst (pa_cons pe_str (pa_cons pe_str pa_nil))) (pe_callTy call_int1 (by rfl) T.z_int (by decide +kernel) (pa_cons (pe_cmpR op_eq (pv 10) pe_str (nomark _)) pa_nil)) (fun _ _ => rfl)))
        (pss_cons (ps_if (PW.pt (pw_or (pt_cmpR (op_neD hr.units) (pe_call GtoldM (hr.mono (by decide)) rfl T.mlaw_told T.Flaw_told.kp T.Blaw_told .nil pass0 (pa_cons (pv 7) (pa_cons (pv 9) (pa_cons (pv 14) pa_nil)))) (pv 13) (nomark _)) (pw_or1 (pt_cmpR (op_neD hr.units) (pe_call GtoldN (hr.mono (by decide)) rfl T.mlaw_told T.Flaw_told.kp T.Blaw_told .nil pass0 (pa_cons (pe_make T.mkTurned GTurned___init__ (hr.mono (by decide)) rfl T.mTurned T.BTurned___init__ .nil passL (pa_cons (pv 7) pa_nil)) (pa_cons (pv 9) (pa_cons (pv 10) pa_nil)))) (pv 13) (nomark _))))) (pss_one (ps_ret pe_bl)) pss_nil)
        (pss_cons (ps_expr (pe_bm PySem.F.plainAttrs_list PySem.F.slot_list_append PySem.F.type_list_append mt_append (pv 12) (pa_cons pe_str pa_nil)))
        (pss_one (ps_if (pt_cmpR (op_neD hr.units) (pe_call Glaw_told (hr.mono (by decide)) rfl T.mlaw_told T.Flaw_told.kp T.Blaw_told .nil pass0 (pa_cons (pv 6) (pa_cons (pv 9) (pa_cons (pv 10) pa_nil)))) (pv 13) (nomark _)) (pss_one (ps_ret pe_bl)) pss_nil))))))))))))))))
      (pss_one (ps_ret (pe_and (pe_callB call_isi (by rfl) T.z_isinstance boot_isi (pa_cons (pv 6) (pa_cons (pe_gR T.mRule) pa_nil))) (pe_one (pe_callB call_isi (by rfl) T.z_isinstance boot_isi (pa_cons (pv 7) (pa_cons (pe_gR T.mRule) pa_nil))))))))))))))))))), ?_⟩
    refine ⟨_, rfl, a, 0, ns, rfl, hS, Int.le_refl 0, hlen, ?_⟩
    refine ⟨_, _, rfl, by decide, by decide, fun s1 sl z0 z1 hsl => ?_⟩
    have sb0 : StB (upd H sl (.lst [.int s1])) sl := ⟨s1, upd_same, z0, z1⟩
    have s0 : Same H (upd H sl (.lst [.int s1])) := Same.new hsl
    generalize upd H sl (.lst [.int s1]) = G0 at sb0 s0
    refine ⟨_, rfl, sl, rfl, sb0, fun kvs d G1 st1 hd0 hd sg l1 l5 => ?_⟩
    have nds := st1.bare.ne hd
    refine ⟨_, rfl, _, rfl, sl, d, kvs, rfl, st1.bare, hd, sg, l1, by omega, fun us lu G2 st2 hlu0 swu lenu oku => ?_⟩
    have hd2 := st2.1 _ _ hd nds
    refine ⟨_, rfl, _, rfl, sl, d, kvs, rfl, st2.bare, hd2, sg, l1, by omega, fun ds ld G3 st3 hld0 swd lend okd => ?_⟩
    have hd3 := st3.1 _ _ hd2 nds
    have swu := swu.stm st2.bare st3
    have ix : IxOk (kvs, us, ds) := ⟨sg, lenu, lend, oku, okd⟩
    have s3 : Same H G3 := ((st1.trans st2).trans st3).out s0 hsl
    clear st1 st2 st3 s0 sb0 hd hd2 hd0 hlu0 hld0
    -- handed
    obtain ⟨as, hlu, pu⟩ := id swu
    obtain ⟨bs, hld, pd⟩ := id swd
    refine ⟨_, rfl, d, kvs, rfl, .inl hd3, fun p1 g1 => ⟨_, rfl, lu, _, rfl, .inl (SqL.of ((Same.new g1) _ _ hlu)), fun p2 g2 => ⟨_, rfl, ld, _, rfl, .inl (SqL.of ((Same.new g2) _ _ ((Same.new g1) _ _ hld))), fun p3 g3 => ⟨by show 3 ≤ sizeLine; decide, fun hd gh => ?_⟩⟩⟩⟩
    have e1 := Same.new (o := .dK kvs) g1
    have e2 := Same.new (o := .lst (as.map V.ref)) g2
    have e3 := Same.new (o := .lst (bs.map V.ref)) g3
    have e4 := Same.new (o := .lst [.ref p1, .ref p2, .ref p3]) gh
    have a1 := e4 _ _ (e3 _ _ (e2 _ _ (upd_same (H := G3) (a := p1) (o := .dK kvs))))
    have a2 := e4 _ _ (e3 _ _ (upd_same (H := upd G3 p1 (.dK kvs)) (a := p2) (o := .lst (as.map V.ref))))
    have a3 := e4 _ _ (upd_same (H := upd (upd G3 p1 (.dK kvs)) p2 (.lst (as.map V.ref))) (a := p3) (o := .lst (bs.map V.ref)))
    have a4 := upd_same (H := upd (upd (upd G3 p1 (.dK kvs)) p2 (.lst (as.map V.ref))) p3 (.lst (bs.map V.ref))) (a := hd) (o := .lst [.ref p1, .ref p2, .ref p3])
    have e5 := ((e1.trans e2).trans e3).trans e4
    have f2 : G3 p2 = none := e1.free g2
    have f3 : G3 p3 = none := e1.free (e2.free g3)
    have n12 : p1 ≠ p2 := ne_of_none upd_same g2
    have n13 : p1 ≠ p3 := ne_of_none (e2 _ _ upd_same) g3
    have n23 : p2 ≠ p3 := ne_of_none upd_same g3
    have n1h : p1 ≠ hd := ne_of_none (e3 _ _ (e2 _ _ upd_same)) gh
    have n2h : p2 ≠ hd := ne_of_none (e3 _ _ upd_same) gh
    have n3h : p3 ≠ hd := ne_of_none upd_same gh
    have fh : G3 hd = none := e1.free (e2.free (e3.free gh))
    generalize upd (upd (upd (upd G3 p1 (.dK kvs)) p2 (.lst (as.map V.ref))) p3 (.lst (bs.map V.ref))) hd (.lst [.ref p1, .ref p2, .ref p3]) = G4 at a1 a2 a3 a4 e5
    clear e1 e2 e3 e4
    -- the rule
    refine ⟨fun σ' H' => ∃ x, σ' = [some (.ref a), some (.ref sl), some (.ref d), some (.ref lu), some (.ref ld), some (.ref hd), some (.ref x), none, none, none, none, none, none, none, none, none] ∧ Same G4 H' ∧ ∀ H2 : Hp, (∀ b o, H' b = some o → b ≠ p1 → b ≠ p2 → b ≠ p3 → H2 b = some o) → O1 A (kvs, us, ds) H2 x, ?_, ?_⟩
    · refine ⟨_, rfl, hd, _, _, _, rfl, rfl, SqL.of a4, rfl, _, rfl, hd, _, _, _, rfl, rfl, SqL.of a4, rfl, _, rfl, hd, _, _, _, rfl, rfl, SqL.of a4, rfl, fun x dx nx ndx nex => ?_⟩
      have s7 : Same G4 (upd (upd G4 dx (.own x)) x (.ins A.cSwaps dx [])) := fun b o q => by
        rw [upd_ne (ne_of_none q nx), upd_ne (ne_of_none q ndx)]
        exact q
      have nxp1 : x ≠ p1 := fun z => by rw [z, a1] at nx; cases nx
      have nxp2 : x ≠ p2 := fun z => by rw [z, a2] at nx; cases nx
      have nxp3 : x ≠ p3 := fun z => by rw [z, a3] at nx; cases nx
      have sw2 : SwL (upd (upd G4 dx (.own x)) x (.ins A.cSwaps dx [])) p2 us := ⟨as, s7 _ _ a2, paired_imp (fun _ _ q => s7 _ _ (e5 _ _ q)) pu⟩
      have sw3 : SwL (upd (upd G4 dx (.own x)) x (.ins A.cSwaps dx [])) p3 ds := ⟨bs, s7 _ _ a3, paired_imp (fun _ _ q => s7 _ _ (e5 _ _ q)) pd⟩
      refine ⟨x, dx, p1, p2, p3, kvs, us, ds, rfl, upd_same, s7 _ _ a1, sg, l1, by omega, sw2, sw3, by omega, by omega, oku, okd, fun H7 nw sb => ⟨rfl, x, rfl, fun b o q => sb b o (s7 b o q) (ne_of_none q nx), fun H2 k2 => nw.at fun b o q hn => k2 b o q ?_ ?_ ?_⟩⟩
      all_goals intro z; subst z
      · rcases hn with e | e | ⟨xs, e⟩
        · exact nxp1 e.symm
        · rw [s7 _ _ a1] at e; cases e
        · rw [sb _ _ (s7 _ _ a1) (Ne.symm nxp1)] at q; rw [e] at q; cases q
      · rcases hn with e | e | ⟨xs, e⟩
        · exact nxp2 e.symm
        · rw [s7 _ _ a2] at e; cases e
        · rw [sb _ _ (s7 _ _ a2) (Ne.symm nxp2)] at q; rw [e] at q; cases q
      · rcases hn with e | e | ⟨xs, e⟩
        · exact nxp3 e.symm
        · rw [s7 _ _ a3] at e; cases e
        · rw [sb _ _ (s7 _ _ a3) (Ne.symm nxp3)] at q; rw [e] at q; cases q
    rintro σ1 G5 ⟨x, rfl, e6, hO⟩
    have hd5 := e6 _ _ (e5 _ _ hd3)
    have lu5 := e6 _ _ (e5 _ _ hlu)
    have ld5 := e6 _ _ (e5 _ _ hld)
    -- what was handed in is as it was
    refine ⟨fun σ' H' => σ' = [some (.ref a), some (.ref sl), some (.ref d), some (.ref lu), some (.ref ld), some (.ref hd), some (.ref x), none, none, none, none, none, none, none, none, none] ∧ Same G5 H', ?_, ?_⟩
    · refine ⟨_, rfl, _, rfl, _, rfl, _, rfl, by show 3 ≤ sizeLine; decide, fun q gq => ?_⟩
      have eq := Same.new (o := .lst [.ref d, .ref lu, .ref ld]) gq
      refine ⟨2, hd, q, _, _, by decide, rfl, rfl, SqL.of (eq _ _ (e6 _ _ a4)), SqL.of upd_same, .cons ?_ (.cons ?_ (.cons ?_ .nil)), _, rfl, iteF ⟨rfl, eq⟩⟩
      · exact .inr (.inr (.inr ⟨p1, d, kvs, kvs, rfl, rfl, eq _ _ (e6 _ _ a1), eq _ _ hd5, rfl, fun e he => ⟨e.2, val_mem sg.nd he, .inl ⟨rfl, by obtain ⟨c, n, rfl, _⟩ := sg.one e he; rfl⟩⟩⟩))
      · exact .inr (.inr (.inl ⟨p2, lu, _, _, rfl, rfl, SqL.of (eq _ _ (e6 _ _ a2)), SqL.of (eq _ _ lu5), paired_refs as⟩))
      · exact .inr (.inr (.inl ⟨p3, ld, _, _, rfl, rfl, SqL.of (eq _ _ (e6 _ _ a3)), SqL.of (eq _ _ ld5), paired_refs bs⟩))
    rintro σ2 G6 ⟨rfl, e7⟩
    have hO : ∀ H2 : Hp, (∀ b o, G6 b = some o → b ≠ p1 → b ≠ p2 → b ≠ p3 → H2 b = some o) → O1 A (kvs, us, ds) H2 x := fun H2 k => hO H2 fun b o q => k b o (e7 _ _ q)
    have b1 := e7 _ _ (e6 _ _ a1)
    have b2 := e7 _ _ (e6 _ _ a2)
    have b3 := e7 _ _ (e6 _ _ a3)
    have b4 := e7 _ _ (e6 _ _ a4)
    have s6 : Same G3 G6 := (e5.trans e6).trans e7
    -- it is changed behind
    refine ⟨_, rfl, hd, _, _, _, rfl, rfl, SqL.of b4, rfl, .inr (.inr (.inl ⟨rfl, .inl ⟨_, b1⟩⟩)), p1, kvs, rfl, rfl, b1, ?_⟩
    refine ⟨_, rfl, hd, [.ref p1, .ref p2, .ref p3], _, _, rfl, rfl, SqL.of (by rw [upd_ne (Ne.symm n1h)]; exact b4), rfl, .inl ⟨rfl, _, SqL.of (by rw [upd_ne (Ne.symm n12)]; exact b2)⟩, by show 2 ≤ sizeLine; decide, fun t gt => ?_⟩
    have et := Same.new (o := .tup [.str "", .str ""]) gt
    refine ⟨p2, _, _, rfl, rfl, et _ _ (by rw [upd_ne (Ne.symm n12)]; exact b2), small1000 (by rw [List.length_map, paired_len pu]; omega), ?_⟩
    refine ⟨_, rfl, hd, [.ref p1, .ref p2, .ref p3], _, _, rfl, rfl, SqL.of (by rw [upd_ne (Ne.symm n2h)]; exact et _ _ (by rw [upd_ne (Ne.symm n1h)]; exact b4)), rfl, .inl ⟨rfl, _, SqL.of (by rw [upd_ne (Ne.symm n23)]; exact et _ _ (by rw [upd_ne (Ne.symm n13)]; exact b3))⟩, p3, _, rfl, rfl, (by rw [upd_ne (Ne.symm n23)]; exact et _ _ (by rw [upd_ne (Ne.symm n13)]; exact b3)), ?_⟩
    have f1 : G3 p1 = none := g1
    have s7 := ((s6.mut (o := .dK []) f1).trans et).mut (o := .lst (as.map V.ref ++ [.ref t])) f2
    have s8 := s7.mut (o := .lst []) f3
    have hO7 := hO (upd (upd (upd (upd G6 p1 (.dK [])) t (.tup [.str "", .str ""])) p2 (.lst (as.map V.ref ++ [.ref t]))) p3 (.lst [])) fun b o q m1 m2 m3 => by
      rw [upd_ne m3, upd_ne m2]
      exact et _ _ (by rw [upd_ne m1]; exact q)
    generalize upd (upd (upd (upd G6 p1 (.dK [])) t (.tup [.str "", .str ""])) p2 (.lst (as.map V.ref ++ [.ref t]))) p3 (.lst []) = G7 at s8 hO7
    clear hO s7 et b1 b2 b3 b4 e7 e6 hd5 lu5 ld5 a1 a2 a3 a4 e5 s6
    -- the mirror
    refine ⟨fun σ' H' => ∃ y, σ' = [some (.ref a), some (.ref sl), some (.ref d), some (.ref lu), some (.ref ld), some (.ref hd), some (.ref x), some (.ref y), none, none, none, none, none, none, none, none] ∧ Same G7 H' ∧ O2 A (kvs, us, ds) H' y, ?_, ?_⟩
    · refine ⟨_, rfl, fun y dy ny ndy ney => ?_⟩
      obtain ⟨xdx, xfs, hx, _⟩ := O1.ins _ _ hO7
      have s13 : Same G7 (upd (upd G7 dy (.own y)) y (.ins A.cTurned dy [])) := fun b o q => by
        rw [upd_ne (ne_of_none q ny), upd_ne (ne_of_none q ndy)]
        exact q
      refine ⟨y, dy, _, _, true, rfl, upd_same, .base (.ins (s13 _ _ hx) T.clSwaps T.coSwaps.a T.coSwaps.g T.coSwaps.t T.coSwaps.m), T.iSwaps_Rule, fun _ => ⟨rfl, ?_⟩, fun z => nomatch z⟩
      have s14 := s13.mut (o := .ins A.cTurned dy [("inner", .ref x)]) ny
      exact ⟨y, rfl, s14, dy, x, upd_same, O1.same _ _ _ hO7 s14⟩
    rintro σ3 H0 ⟨y, rfl, e8, hM⟩
    have hO := O1.same _ _ _ hO7 e8
    have s0 : Same H H0 := s3.trans (s8.trans e8)
    have hd0 := e8 _ _ (s8 _ _ hd3)
    have swu := (swu.same s8).same e8
    have swd := (swd.same s8).same e8
    clear s8 e8 hO7 hlu hld hd3
    have hS0 := s0.seq hS
    refine ⟨_, rfl, a, _, rfl, .inl hS0, 1, _, rfl, ⟨by decide, by decide, by omega, by rw [List.length_map]; omega⟩, ?_⟩
    rw [List.length_map]
    refine for_range (lo := 1) (n := ((ns.length : Int) - 1).toNat) (fun i σ H' => ∃ v1 v8 v9 v10 v11 v12 v13 v14 v15, σ = [some (.ref a), v1, some (.ref d), some (.ref lu), some (.ref ld), some (.ref hd), some (.ref x), some (.ref y), v8, v9, v10, v11, v12, v13, v14, v15] ∧ Same H0 H')
      ⟨_, _, _, _, _, _, _, _, _, rfl, Same.refl H0⟩ ?_ ?_
    · rintro i σ H1 hi ⟨v1, v8, v9, v10, v11, v12, v13, v14, v15, rfl, e⟩
      have hk : 1 + i < ns.length := by omega
      have hat : (ns.map V.int)[1 + i]? = some (.int (ns.getD (1 + i) 0)) := by
        rw [List.getElem?_map, List.getD_eq_getElem?_getD, List.getElem?_eq_getElem hk]
        rfl
      refine ⟨_, rfl, _, rfl, a, _, _, _, rfl, rfl, e.seq hS0, at_of (by omega) hat, _, rfl, _, _, rfl, by omega, by omega, fun s2 st w0 w1 hst => ?_⟩
      have hst0 := e.free hst
      have sb : StB (upd H1 st (.lst [.int s2])) st := ⟨s2, upd_same, w0, w1⟩
      have e := e.trans (Same.new (o := .lst [.int s2]) hst)
      generalize upd H1 st (.lst [.int s2]) = G0 at sb e
      -- the board
      refine ⟨_, rfl, _, rfl, st, d, kvs, rfl, sb, e _ _ hd0, sg, l1, by omega, fun v G1 st1 bw => ?_⟩
      -- the hand
      refine ⟨fun σ' H' => ∃ h, σ' = [some (.ref a), some (.ref st), some (.ref d), some (.ref lu), some (.ref ld), some (.ref hd), some (.ref x), some (.ref y), some (.int (1 + i)), some v, some h, v11, v12, v13, v14, v15] ∧ Same H0 H' ∧ BoardV K H' v ∧ HandX H' h, ?_, ?_⟩
      · refine ⟨by show 1 ≤ sizeLine; decide, fun q1 g1 => ⟨by show 1 ≤ sizeLine; decide, fun q2 g2 => ⟨by show 8 ≤ sizeLine; decide, fun q3 g3 => ⟨_, rfl, ?_⟩⟩⟩⟩
        have n1 := st1.away g1
        have t1 := Same.new (o := .tup [.str "up"]) g1
        have st2 := st1.same t1
        have n2 := st2.away g2
        have t2 := Same.new (o := .lst [.str "up"]) g2
        have st3 := st2.same t2
        have n3 := st3.away g3
        have t3 := Same.new (o := .lst [.str "up", .str "down", .str "up", .str "down", .non, .str "left", .ref q1, .ref q2]) g3
        have st4 := st3.same t3
        have bw4 := bw.same ((t1.trans t2).trans t3)
        have c1 := t3 _ _ (t2 _ _ (upd_same (H := G1) (a := q1) (o := .tup [.str "up"])))
        have c2 := t3 _ _ (upd_same (H := upd G1 q1 (.tup [.str "up"])) (a := q2) (o := .lst [.str "up"]))
        have c3 := upd_same (H := upd (upd G1 q1 (.tup [.str "up"])) q2 (.lst [.str "up"])) (a := q3) (o := .lst [.str "up", .str "down", .str "up", .str "down", .non, .str "left", .ref q1, .ref q2])
        refine L2.StM.next (m := 8) st4 (by decide) ?_
        intro r8 G5 z0 z1 st5 aw
        have c1 := (aw _ n1).trans c1
        have c2 := (aw _ n2).trans c2
        have c3 := (aw _ n3).trans c3
        have bv5 := (bw4.away aw).board (K := K)
        have e5 : Same H0 G5 := st5.out e hst0
        obtain rfl | rfl | rfl | rfl | rfl | rfl | rfl | rfl : r8 = 0 ∨ r8 = 1 ∨ r8 = 2 ∨ r8 = 3 ∨ r8 = 4 ∨ r8 = 5 ∨ r8 = 6 ∨ r8 = 7 := by omega
        · exact ⟨q3, _, _, _, rfl, rfl, SqL.of c3, rfl, _, rfl, e5, bv5, .inl ⟨true, rfl⟩⟩
        · exact ⟨q3, _, _, _, rfl, rfl, SqL.of c3, rfl, _, rfl, e5, bv5, .inl ⟨false, rfl⟩⟩
        · exact ⟨q3, _, _, _, rfl, rfl, SqL.of c3, rfl, _, rfl, e5, bv5, .inl ⟨true, rfl⟩⟩
        · exact ⟨q3, _, _, _, rfl, rfl, SqL.of c3, rfl, _, rfl, e5, bv5, .inl ⟨false, rfl⟩⟩
        · exact ⟨q3, _, _, _, rfl, rfl, SqL.of c3, rfl, _, rfl, e5, bv5, .inr (.inr (.inl rfl))⟩
        · exact ⟨q3, _, _, _, rfl, rfl, SqL.of c3, rfl, _, rfl, e5, bv5, .inr (.inl rfl)⟩
        · exact ⟨q3, _, _, _, rfl, rfl, SqL.of c3, rfl, _, rfl, e5, bv5, .inr (.inr (.inr ⟨q1, rfl, .inl c1⟩))⟩
        · exact ⟨q3, _, _, _, rfl, rfl, SqL.of c3, rfl, _, rfl, e5, bv5, .inr (.inr (.inr ⟨q2, rfl, .inr c2⟩))⟩
      clear bw st1 sb e
      rintro σ4 G2 ⟨h, rfl, e, bv, hx⟩
      -- good
      refine ⟨fun σ' H' => σ' = [some (.ref a), some (.ref st), some (.ref d), some (.ref lu), some (.ref ld), some (.ref hd), some (.ref x), some (.ref y), some (.int (1 + i)), some v, some h, some (.bl (gd (kvs, us, ds) v)), v12, v13, v14, v15] ∧ Same H0 H' ∧ BoardV K H' v ∧ HandX H' h, ?_, ?_⟩
      · rcases id bv with ⟨z, rfl, hz⟩ | ⟨t, ty, kt⟩
        · refine ⟨_, rfl, _, _, _, _, true, rfl, .ty "str", .base (.str z), kit_ty (by decide +kernel), true, rfl, ?_⟩
          refine iteT ⟨_, rfl, z, rfl, Nat.le_trans hz (by decide), _, _, rfl, rfl, _, rfl, ?_⟩
          refine ite2 (fun h11 => ?_) (fun h11 => ?_)
          · have h10 : z.length ≤ 10 := by have := of_decide_eq_true h11; omega
            refine ⟨_, rfl, z, rfl, fun L hL => lc_str (z := z) (fun j H' => Same G2 H' ∧ H' L = some (.lst ((((z.cps.toList.take j).filter fun c => !inS kvs c).map fun _ => (1 : Int)).map V.int))) ⟨Same.new hL, by rw [upd_same]; simp⟩ ?_ ?_⟩
            · rintro j c H6 hc ⟨e6, hl⟩
              refine ⟨rfl, _, rfl, _, rfl, d, _, rfl, DGet.k (k := sgn c) ((e.trans e6) _ _ hd0), _, rfl, ?_⟩
              show if (!inS kvs c) = true then _ else _
              cases hf : (!inS kvs c) with
              | true =>
                refine iteT ⟨_, hl, ?_, e6.mut hL, ?_⟩
                · rw [List.length_map, List.length_map]
                  refine small1000 (Nat.le_trans (List.length_filter_le _ _) ?_)
                  rw [List.length_take, cps_len]
                  exact Nat.le_trans (Nat.min_le_right _ _) hz
                · rw [upd_same, take_snoc (cps_at hc), List.filter_append]
                  simp only [List.filter_cons, hf, if_true, List.filter_nil, List.map_append, List.map_cons, List.map_nil]
              | false =>
                refine iteF ⟨e6, ?_⟩
                rw [hl, take_snoc (cps_at hc), List.filter_append]
                simp only [List.filter_cons, hf, Bool.false_eq_true, if_false, List.filter_nil, List.append_nil]
            · rintro H6 ⟨e6, hl⟩
              refine ⟨by show 0 ≤ sizeLine; decide, fun p gp => ?_⟩
              have e7 := e6.trans (Same.new (o := .lst []) gp)
              refine ⟨_, _, .lst (SqL.of ((Same.new gp) _ _ hl)) (dp_ints _), .lst (SqL.of upd_same) .nil, shaped_ints _, shaped_ints [], ?_, e.trans e7, e7.boardV bv, hx.same e7⟩
              rw [cps_take, good_list]
              have : gd (kvs, us, ds) (.str z) = z.cps.toList.all (inS kvs) := by simp [gd, rowOk, allIn, h10]
              rw [this]
              rfl
          · refine ⟨?_, e, bv, hx⟩
            have h10 : ¬ z.length ≤ 10 := fun h => h11 (decide_eq_true (by omega))
            rw [show gd (kvs, us, ds) (.str z) = false by simp [gd, rowOk, h10]]
            rfl
        · refine ⟨_, rfl, _, _, _, _, false, rfl, .ty "str", ty, kt, false, rfl, ?_⟩
          refine iteF ⟨?_, e, bv, hx⟩
          have : gd (kvs, us, ds) v = false := by cases v <;> first | rfl | exact (IsNot.str ⟨t, ty, kt⟩).elim
          rw [this]
          rfl
      clear e bv hx
      rintro σ5 G3 ⟨rfl, e, bv, hx⟩
      -- what both rules' is_board say
      refine ⟨fun σ' H' => ∃ q, σ' = [some (.ref a), some (.ref st), some (.ref d), some (.ref lu), some (.ref ld), some (.ref hd), some (.ref x), some (.ref y), some (.int (1 + i)), some v, some h, some (.bl (gd (kvs, us, ds) v)), some (.ref q), v13, v14, v15] ∧ H' q = some (.lst [.bl (gd (kvs, us, ds) v), .bl (gd (kvs, us, ds) v)]) ∧ Same G3 H', ?_, ?_⟩
      · obtain ⟨xdx, xfs, hx1, nx1, _⟩ := O1.ins _ _ (O1.same _ _ _ hO e)
        refine ⟨_, rfl, x, xdx, xfs, rfl, hx1, nx1, _, rfl, (kvs, us, ds), ix, x, v, rfl, O1.same _ _ _ hO e, bv, fun H7 e7 => ?_⟩
        obtain ⟨ydx, yfs, hy1, ny1, _⟩ := tur_ins _ _ (O2.same _ _ _ hM (e.trans e7))
        refine ⟨_, rfl, y, ydx, yfs, rfl, hy1, ny1, _, rfl, (kvs, us, ds), ix, y, v, rfl, O2.same _ _ _ hM (e.trans e7), e7.boardV bv, fun H8 e8 => ?_⟩
        exact ⟨by show 2 ≤ sizeLine; decide, fun q gq => ⟨q, rfl, upd_same, (e7.trans e8).trans (Same.new gq)⟩⟩
      rintro σ6 G4 ⟨q, rfl, hq, e1⟩
      refine ⟨fun σ' H' => σ' = [some (.ref a), some (.ref st), some (.ref d), some (.ref lu), some (.ref ld), some (.ref hd), some (.ref x), some (.ref y), some (.int (1 + i)), some v, some h, some (.bl (gd (kvs, us, ds) v)), some (.ref q), v13, v14, v15] ∧ Same G3 H', ?_, ?_⟩
      · obtain ⟨b1, b2⟩ := two_bools (gd (kvs, us, ds) v)
        refine ⟨_, rfl, _, rfl, _, rfl, by show 2 ≤ sizeLine; decide, fun p gp => ?_⟩
        have hq' := (Same.new (o := .lst [.bl (gd (kvs, us, ds) v), .bl (gd (kvs, us, ds) v)]) gp) _ _ hq
        refine ⟨_, _, .lst (SqL.of hq') (.cons (.bl _) (.cons (.bl _) .nil)), .lst (SqL.of upd_same) (.cons (.bl _) (.cons (.bl _) .nil)), b1, b1, _, rfl, ?_⟩
        rw [b2]
        refine iteF ⟨_, rfl, q, _, _, _, rfl, rfl, SqL.of hq', rfl, _, _, _, _, true, rfl, .ty "bool", .base (.bl _), kit_ty (by decide +kernel), true, rfl, ?_⟩
        refine iteF ⟨_, rfl, q, [.bl (gd (kvs, us, ds) v), .bl (gd (kvs, us, ds) v)], _, _, rfl, rfl, SqL.of hq', rfl, _, _, _, _, true, rfl, .ty "bool", .base (.bl _), kit_ty (by decide +kernel), true, rfl, ?_⟩
        exact iteF ⟨rfl, e1.trans (Same.new gp)⟩
      clear e1 hq
      rintro σ7 G5 ⟨rfl, e1⟩
      have bv := e1.boardV bv
      have hx := hx.same e1
      have e := e.trans e1
      clear e1
      have lay := ch_lay ix
      -- what the rule tells
      refine ⟨_, rfl, _, rfl, _, rfl, (kvs, us, ds), ix, told_due' (O1.same _ _ _ hO e) bv hx.hand fun t G6 e6 D fr => ?_⟩
      have fr0 : ∀ l, t = .ref l → H0 l = none := fun l q => e.free (fr l q)
      have bv := e6.boardV bv
      have hx := hx.same e6
      have e := e.trans e6
      clear e6 fr
      refine ⟨fun σ' H' => σ' = [some (.ref a), some (.ref st), some (.ref d), some (.ref lu), some (.ref ld), some (.ref hd), some (.ref x), some (.ref y), some (.int (1 + i)), some v, some h, some (.bl (gd (kvs, us, ds) v)), some t, v13, v14, v15] ∧ Same H0 H' ∧ BoardV K H' v ∧ Due (gd (kvs, us, ds)) (ch (kvs, us, ds)) H' v h t ∧ gd (kvs, us, ds) v = true ∧ ∃ u, h = .str (handS u), ?_, ?_⟩
      · refine ⟨_, rfl, _, rfl, ?_⟩
        have bodyOk : ∀ Gc : Hp, Same G6 Gc → (gd (kvs, us, ds) v = false ∨ ∀ u, h ≠ .str (handS u)) → Same H0 Gc ∧ BoardV K Gc v ∧ HandX Gc h ∧ Due (gd (kvs, us, ds)) (ch (kvs, us, ds)) Gc v h t := fun Gc e7 _ => ⟨e.trans e7, e7.boardV bv, hx.same e7, D.same e7⟩
        refine ite2 (fun q => ?_) (fun q => ?_)
        · have hn : gd (kvs, us, ds) v = false ∨ ∀ u, h ≠ .str (handS u) := .inl (by cases z : gd (kvs, us, ds) v with | false => rfl | true => rw [z] at q; cases q)
          obtain ⟨E7, bv7, hx7, D7⟩ := bodyOk G6 (Same.refl _) hn
          refine iteT ?_
          refine ⟨_, rfl, by show 2 ≤ sizeLine; decide, fun p gp => ?_⟩
          have ep := Same.new (o := .lst [.str "NoHand", .str "NoBoard"]) gp
          obtain ⟨D1, D2, d1, d2, s1, s2, qe⟩ := (D7.same ep).alike (K := K) lay (Due.lit hn)
          refine ⟨_, rfl, _, rfl, .inr ⟨_, rfl, p, [.str "NoHand", .str "NoBoard"], _, .str (if gd (kvs, us, ds) v = true then "NoHand" else "NoBoard"), rfl, rfl, SqL.of upd_same, by cases gd (kvs, us, ds) v <;> rfl, D1, D2, d1, d2, s1, s2, _, rfl, ?_⟩⟩
          rw [qe]
          refine iteF ⟨_, rfl, _, rfl, _, rfl, (kvs, us, ds), ix, told_due' (O2.same _ _ _ hM (E7.trans ep)) (ep.boardV bv7) (hx7.same ep).hand fun t2 G8 e8 D8 _ => ?_⟩
          obtain ⟨D1, D2, d1, d2, s1, s2, qe⟩ := (D8.other hn).alike (K := K) lay ((D7.same ep).same e8)
          refine ⟨_, rfl, D1, D2, d1, d2, s1, s2, _, rfl, ?_⟩
          rw [qe]
          exact iteF ⟨_, _, _, _, _, _, _, _, _, rfl, (E7.trans ep).trans e8⟩
        · have hg : gd (kvs, us, ds) v = true := by cases z : gd (kvs, us, ds) v with | false => rw [z] at q; exact (q rfl).elim | true => rfl
          refine ⟨_, rfl, by show 2 ≤ sizeLine; decide, fun p gp => ?_⟩
          have ep := Same.new (o := .lst [.str "up", .str "down"]) gp
          obtain ⟨dh, hdh, sdh, alt⟩ := (hx.same ep).data (K := K)
          refine ⟨dh, [.str "up", .str "down"], hdh, up_down upd_same, sdh, by decide +kernel, _, rfl, ?_⟩
          rcases alt with ⟨ha, hu⟩ | ⟨ha, hn⟩
          · rw [ha]
            exact iteF ⟨rfl, e.trans ep, ep.boardV bv, D.same ep, hg, hu⟩
          · rw [ha]
            have hn : gd (kvs, us, ds) v = false ∨ ∀ u, h ≠ .str (handS u) := .inr hn
            obtain ⟨E7, bv7, hx7, D7⟩ := bodyOk _ ep hn
            refine iteT ?_
            refine ⟨_, rfl, by show 2 ≤ sizeLine; decide, fun p2 gp2 => ?_⟩
            have ep2 := Same.new (o := .lst [.str "NoHand", .str "NoBoard"]) gp2
            obtain ⟨D1, D2, d1, d2, s1, s2, qe⟩ := (D7.same ep2).alike (K := K) lay (Due.lit hn)
            refine ⟨_, rfl, _, rfl, .inr ⟨_, rfl, p2, [.str "NoHand", .str "NoBoard"], _, .str (if gd (kvs, us, ds) v = true then "NoHand" else "NoBoard"), rfl, rfl, SqL.of upd_same, by cases gd (kvs, us, ds) v <;> rfl, D1, D2, d1, d2, s1, s2, _, rfl, ?_⟩⟩
            rw [qe]
            refine iteF ⟨_, rfl, _, rfl, _, rfl, (kvs, us, ds), ix, told_due' (O2.same _ _ _ hM (E7.trans ep2)) (ep2.boardV bv7) (hx7.same ep2).hand fun t2 G8 e8 D8 _ => ?_⟩
            obtain ⟨D1, D2, d1, d2, s1, s2, qe⟩ := (D8.other hn).alike (K := K) lay ((D7.same ep2).same e8)
            refine ⟨_, rfl, D1, D2, d1, d2, s1, s2, _, rfl, ?_⟩
            rw [qe]
            exact iteF ⟨_, _, _, _, _, _, _, _, _, rfl, (E7.trans ep2).trans e8⟩
      clear e bv hx D
      rintro σ8 G7 ⟨rfl, e, bv, D, hg, u, rfl⟩
      obtain ⟨z, rfl⟩ := rowOk_is v hg
      obtain ⟨hz10, hza⟩ := rowOk_str hg
      obtain ⟨l, ys, rfl, hl, so⟩ : ∃ l ys, t = .ref l ∧ G7 l = some (.lst (ys.map V.str)) ∧ SortedOf (ch (kvs, us, ds) u z) ys := by
        rcases D with ⟨g, _⟩ | ⟨_, n, _⟩ | ⟨z', u', l, ys, ez, _, eu, et, hl, so⟩
        · rw [hg] at g; cases g
        · exact (n u rfl).elim
        · cases V.str.inj ez
          cases handS_str eu
          exact ⟨l, ys, et, hl, so⟩
      clear D
      have fl := fr0 l rfl
      have ylen : ys.length < 64 := Nat.lt_of_le_of_lt so.len (ch_len ix u z hg)
      -- what is due
      have swu7 := swu.same e
      have swd7 := swd.same e
      refine ⟨_, rfl, _, rfl, by show 2 ≤ sizeLine; decide, fun p gp => ⟨_, rfl, rfl, .inr ⟨_, rfl, p, [.ref lu, .ref ld], _, .ref (if u = true then lu else ld), rfl, rfl, SqL.of upd_same, ?_, _, rfl, if u = true then lu else ld, z, if u = true then us else ds, rfl, ?_, ?_, hz10, ?_, fun G8 m ys' e8 fm so' hm => ?_⟩⟩⟩
      · cases u
        · rw [show decide (V.str (handS false) = V.str (Str.ofString "down")) = true by decide +kernel]
          rfl
        · rw [show decide (V.str (handS true) = V.str (Str.ofString "down")) = false by decide +kernel]
          rfl
      · cases u
        · exact swd7.same (Same.new gp)
        · exact swu7.same (Same.new gp)
      · cases u
        · exact lend
        · exact lenu
      · intro pr hp
        have hok : prOk kvs pr = true := by
          cases u
          · exact okd pr hp
          · exact oku pr hp
        obtain ⟨c1, c2, _⟩ := prOk_use hok
        exact ⟨prOk_pos hok, c1, c2⟩
      have ep := Same.new (o := .lst [.ref lu, .ref ld]) gp
      have nml : m ≠ l := fun q => by rw [q, ep _ _ hl] at fm; cases fm
      have e8 := ep.trans e8
      have hl8 := e8 _ _ hl
      have bv8 := e8.boardV bv
      have E8 := e.trans e8
      have due : ∀ G : Hp, G m = some (.lst (ys'.map V.str)) → Due (gd (kvs, us, ds)) (ch (kvs, us, ds)) G (.str z) (.str (handS u)) (.ref m) := fun G hG => .inr (.inr ⟨z, u, m, ys', rfl, hg, rfl, rfl, hG, so'⟩)
      have fnd : Due (gd (kvs, us, ds)) (ch (kvs, us, ds)) G8 (.str z) (.str (handS u)) (.ref l) := .inr (.inr ⟨z, u, l, ys, rfl, hg, rfl, rfl, hl8, so⟩)
      clear ep
      obtain ⟨D1, D2, d1, d2, s1, s2, qe⟩ := fnd.alike (K := K) lay (due _ hm)
      refine ⟨_, rfl, _, _, _, _, true, rfl, .ty "list", .base (.lst hl8), kit_ty (by decide +kernel), true, rfl, ?_⟩
      refine iteF ⟨_, rfl, _, rfl, D1, D2, d1, d2, s1, s2, _, rfl, ?_⟩
      rw [qe]
      refine iteF ?_
      -- the other hand
      refine ⟨by show 2 ≤ sizeLine; decide, fun p4 gp4 => ⟨_, rfl, rfl, .inr ⟨_, rfl, p4, [.str "up", .str "down"], _, .str (handS (!u)), rfl, rfl, SqL.of upd_same, ?_, ?_⟩⟩⟩
      · cases u
        · rw [show decide (V.str (handS false) = V.str (Str.ofString "up")) = false by decide +kernel]
          rfl
        · rw [show decide (V.str (handS true) = V.str (Str.ofString "up")) = true by decide +kernel]
          rfl
      have e9 := Same.new (o := .lst [.str "up", .str "down"]) gp4
      have E9 := E8.trans e9
      refine ⟨_, rfl, _, rfl, _, rfl, (kvs, us, ds), ix, told_due' (O2.same _ _ _ hM E9) (e9.boardV bv8) (.inl ⟨_, rfl⟩) fun t2 G10 e10 D10 _ => ?_⟩
      have e10 := e9.trans e10
      obtain ⟨D1, D2, d1, d2, s1, s2, qe⟩ := D10.flip.alike (K := K) lay (due _ (e10 _ _ hm))
      refine ⟨_, rfl, D1, D2, d1, d2, s1, s2, _, rfl, ?_⟩
      rw [qe]
      refine iteF ⟨_, rfl, fun w dw nw ndw new => ?_⟩
      have E10 := E8.trans e10
      have hM10 := O2.same _ _ _ hM E10
      obtain ⟨ydx, yfs, hy, _⟩ := tur_ins _ _ hM10
      have s13 : Same G10 (upd (upd G10 dw (.own w)) w (.ins A.cTurned dw [])) := fun b o q => by
        rw [upd_ne (ne_of_none q nw), upd_ne (ne_of_none q ndw)]
        exact q
      refine ⟨w, dw, _, _, true, rfl, upd_same, .base (.ins (s13 _ _ hy) T.clTurned T.coTurned.a T.coTurned.g T.coTurned.t T.coTurned.m), T.iTurned_Rule, fun _ => ⟨rfl, ?_⟩, fun z => nomatch z⟩
      have s14 := s13.mut (o := .ins A.cTurned dw [("inner", .ref y)]) nw
      have hN : O3 A (kvs, us, ds) (upd (upd (upd G10 dw (.own w)) w (.ins A.cTurned dw [])) w (.ins A.cTurned dw [("inner", .ref y)])) w := ⟨dw, y, upd_same, O2.same _ _ _ hM10 s14⟩
      show tCons _ _ _ (upd (upd (upd G10 dw (.own w)) w (.ins A.cTurned dw [])) w (.ins A.cTurned dw [("inner", .ref y)])) _
      generalize upd (upd (upd G10 dw (.own w)) w (.ins A.cTurned dw [])) w (.ins A.cTurned dw [("inner", .ref y)]) = G11 at s14 hN
      have e11 := e10.trans s14
      refine ⟨_, rfl, _, rfl, (kvs, us, ds), ix, told_due' hN (e11.boardV bv8) (.inl ⟨_, rfl⟩) fun t3 G12 e12 D12 _ => ?_⟩
      have e12 := e11.trans e12
      obtain ⟨D1, D2, d1, d2, s1, s2, qe⟩ := D12.alike (K := K) lay (due _ (e12 _ _ hm))
      refine ⟨_, rfl, D1, D2, d1, d2, s1, s2, _, rfl, ?_⟩
      rw [qe]
      refine iteF ?_
      -- what it told is changed; it tells the same again
      have hl12 := e12 _ _ hl8
      refine ⟨_, rfl, .inl ⟨rfl, _, SqL.of hl12⟩, l, _, _, rfl, rfl, hl12, small1000 (by rw [List.length_map]; omega), ?_⟩
      have E13 := (E8.trans e12).mut (o := .lst (ys.map V.str ++ [.str "a"])) fl
      have bv13 : BoardV K (upd G12 l (.lst (ys.map V.str ++ [.str "a"]))) (.str z) := .inl ⟨z, rfl, by omega⟩
      have hm13 : (upd G12 l (.lst (ys.map V.str ++ [.str "a"]))) m = some (.lst (ys'.map V.str)) := by rw [upd_ne nml]; exact e12 _ _ hm
      refine ⟨_, rfl, _, rfl, _, rfl, (kvs, us, ds), ix, told_due' (O1.same _ _ _ hO E13) bv13 (.inl ⟨_, rfl⟩) fun t4 G14 e14 D14 _ => ?_⟩
      obtain ⟨D1, D2, d1, d2, s1, s2, qe⟩ := D14.alike (K := K) lay (due _ (e14 _ _ hm13))
      refine ⟨_, rfl, D1, D2, d1, d2, s1, s2, _, rfl, ?_⟩
      rw [qe]
      exact iteF ⟨_, _, _, _, _, _, _, _, _, rfl, E13.trans e14⟩
    · rintro σ H1 ⟨v1, v8, v9, v10, v11, v12, v13, v14, v15, rfl, e⟩
      obtain ⟨xdx, xfs, hx, _⟩ := O1.ins _ _ (O1.same _ _ _ hO e)
      obtain ⟨ydx, yfs, hy, _⟩ := tur_ins _ _ (O2.same _ _ _ hM e)
      refine ⟨_, rfl, _, _, _, _, true, rfl, .own A.cRule, .base (.ins hx T.clSwaps T.coSwaps.a T.coSwaps.g T.coSwaps.t T.coSwaps.m), T.iSwaps_Rule, true, rfl, ?_⟩
      refine iteT ⟨_, rfl, _, _, _, _, true, rfl, .own A.cRule, .base (.ins hy T.clTurned T.coTurned.a T.coTurned.g T.coTurned.t T.coTurned.m), T.iTurned_Rule, k _⟩
end
end K71
namespace K71
open PySem L2
set_option maxHeartbeats 4000000 in
theorem all_mk {l : PySem.W.OpenLaw} {w : World} {K : PySem.W.Frag} {h : Heap} {mg : Str → Option Value} {fa : Addr} {ocis_number kVis_number dcis_number pmis_number cdis_number ctis_number : Value} {odis_number anis_number : Option Addr} {slis_number : Array (Option Value)} {ocRule_moves kVRule_moves dcRule_moves pmRule_moves cdRule_moves ctRule_moves : Value} {odRule_moves anRule_moves : Option Addr} {slRule_moves : Array (Option Value)} {ocSwaps___init__ kVSwaps___init__ dcSwaps___init__ pmSwaps___init__ cdSwaps___init__ ctSwaps___init__ : Value} {odSwaps___init__ anSwaps___init__ : Option Addr} {slSwaps___init__ : Array (Option Value)} {ocSwaps_good_signs kVSwaps_good_signs dcSwaps_good_signs pmSwaps_good_signs cdSwaps_good_signs ctSwaps_good_signs : Value} {odSwaps_good_signs anSwaps_good_signs : Option Addr} {slSwaps_good_signs : Array (Option Value)} {ocSwaps_is_row kVSwaps_is_row dcSwaps_is_row pmSwaps_is_row cdSwaps_is_row ctSwaps_is_row : Value} {odSwaps_is_row anSwaps_is_row : Option Addr} {slSwaps_is_row : Array (Option Value)} {ocSwaps_is_swap kVSwaps_is_swap dcSwaps_is_swap pmSwaps_is_swap cdSwaps_is_swap ctSwaps_is_swap : Value} {odSwaps_is_swap anSwaps_is_swap : Option Addr} {slSwaps_is_swap : Array (Option Value)} {ocSwaps_good_swaps kVSwaps_good_swaps dcSwaps_good_swaps pmSwaps_good_swaps cdSwaps_good_swaps ctSwaps_good_swaps : Value} {odSwaps_good_swaps anSwaps_good_swaps : Option Addr} {slSwaps_good_swaps : Array (Option Value)} {ocSwaps_is_board kVSwaps_is_board dcSwaps_is_board pmSwaps_is_board cdSwaps_is_board ctSwaps_is_board : Value} {odSwaps_is_board anSwaps_is_board : Option Addr} {slSwaps_is_board : Array (Option Value)} {ocSwaps_weight kVSwaps_weight dcSwaps_weight pmSwaps_weight cdSwaps_weight ctSwaps_weight : Value} {odSwaps_weight anSwaps_weight : Option Addr} {slSwaps_weight : Array (Option Value)} {ocSwaps_changed kVSwaps_changed dcSwaps_changed pmSwaps_changed cdSwaps_changed ctSwaps_changed : Value} {odSwaps_changed anSwaps_changed : Option Addr} {slSwaps_changed : Array (Option Value)} {ocTurned___init__ kVTurned___init__ dcTurned___init__ pmTurned___init__ cdTurned___init__ ctTurned___init__ : Value} {odTurned___init__ anTurned___init__ : Option Addr} {slTurned___init__ : Array (Option Value)} {ocTurned_is_board kVTurned_is_board dcTurned_is_board pmTurned_is_board cdTurned_is_board ctTurned_is_board : Value} {odTurned_is_board anTurned_is_board : Option Addr} {slTurned_is_board : Array (Option Value)} {ocTurned_changed kVTurned_changed dcTurned_changed pmTurned_changed cdTurned_changed ctTurned_changed : Value} {odTurned_changed anTurned_changed : Option Addr} {slTurned_changed : Array (Option Value)} {oclaw_next kVlaw_next dclaw_next pmlaw_next cdlaw_next ctlaw_next : Value} {odlaw_next anlaw_next : Option Addr} {sllaw_next : Array (Option Value)} {oclaw_cell kVlaw_cell dclaw_cell pmlaw_cell cdlaw_cell ctlaw_cell : Value} {odlaw_cell anlaw_cell : Option Addr} {sllaw_cell : Array (Option Value)} {oclaw_state kVlaw_state dclaw_state pmlaw_state cdlaw_state ctlaw_state : Value} {odlaw_state anlaw_state : Option Addr} {sllaw_state : Array (Option Value)} {oclaw_signs kVlaw_signs dclaw_signs pmlaw_signs cdlaw_signs ctlaw_signs : Value} {odlaw_signs anlaw_signs : Option Addr} {sllaw_signs : Array (Option Value)} {oclaw_heavy kVlaw_heavy dclaw_heavy pmlaw_heavy cdlaw_heavy ctlaw_heavy : Value} {odlaw_heavy anlaw_heavy : Option Addr} {sllaw_heavy : Array (Option Value)} {oclaw_row kVlaw_row dclaw_row pmlaw_row cdlaw_row ctlaw_row : Value} {odlaw_row anlaw_row : Option Addr} {sllaw_row : Array (Option Value)} {oclaw_swaps kVlaw_swaps dclaw_swaps pmlaw_swaps cdlaw_swaps ctlaw_swaps : Value} {odlaw_swaps anlaw_swaps : Option Addr} {sllaw_swaps : Array (Option Value)} {oclaw_moves kVlaw_moves dclaw_moves pmlaw_moves cdlaw_moves ctlaw_moves : Value} {odlaw_moves anlaw_moves : Option Addr} {sllaw_moves : Array (Option Value)} {oclaw_told kVlaw_told dclaw_told pmlaw_told cdlaw_told ctlaw_told : Value} {odlaw_told anlaw_told : Option Addr} {sllaw_told : Array (Option Value)} {oclaw_board kVlaw_board dclaw_board pmlaw_board cdlaw_board ctlaw_board : Value} {odlaw_board anlaw_board : Option Addr} {sllaw_board : Array (Option Value)} {oclaw kVlaw dclaw pmlaw cdlaw ctlaw : Value} {odlaw anlaw : Option Addr} {sllaw : Array (Option Value)} {tFIRST : Tok} {tLAST : Tok} {tMOST_SIGNS : Tok} {tMOST_WEIGHT : Tok} {tMOST_SWAPS : Tok} {tLONGEST_SWAP : Tok} {tLONGEST_BOARD : Tok} {tHANDS0 tHANDS1 : Tok} {ddHANDS : Option Addr} {nnHANDS : Nat} {ssHANDS : Array (Option Value)} {fis_number fRule_moves fSwaps___init__ fSwaps_good_signs fSwaps_is_row fSwaps_is_swap fSwaps_good_swaps fSwaps_is_board fSwaps_weight fSwaps_changed fTurned___init__ fTurned_is_board fTurned_changed flaw_next flaw_cell flaw_state flaw_signs flaw_heavy flaw_row flaw_swaps flaw_moves flaw_told flaw_board flaw cDuelError cNoRule cNoBoard cNoHand cRule cSwaps cTurned aHANDS : Addr}
    (X : K.In h) (G : h.Ns mainGlobals mg) (hfa : mg "law" = some (.ref fa))
    (nDuelError : PySem.W.nsIn K mainGlobals "DuelError" = some (some (.ref cDuelError)))
    (nNoRule : PySem.W.nsIn K mainGlobals "NoRule" = some (some (.ref cNoRule)))
    (nNoBoard : PySem.W.nsIn K mainGlobals "NoBoard" = some (some (.ref cNoBoard)))
    (nNoHand : PySem.W.nsIn K mainGlobals "NoHand" = some (some (.ref cNoHand)))
    (nRule : PySem.W.nsIn K mainGlobals "Rule" = some (some (.ref cRule)))
    (nSwaps : PySem.W.nsIn K mainGlobals "Swaps" = some (some (.ref cSwaps)))
    (nTurned : PySem.W.nsIn K mainGlobals "Turned" = some (some (.ref cTurned)))
    (ais_number : PySem.W.nsIn K mainGlobals "is_number" = some (some (.ref fis_number)))
    (lis_number : K.lookup fis_number = some ⟨ocis_number, odis_number, .func (PySem.W.fnOf "is_number" "is_number" (defArgs sis_number) (defBody sis_number) (defScope sis_number) .none kVis_number dcis_number pmis_number anis_number cdis_number ctis_number), slis_number⟩)
    (ccis_number : PySem.W.codeIn K cdis_number "is_number" = true)
    (kkis_number : PySem.W.keepIn K (.ref fis_number) = true)
    (aRule_moves : PySem.W.findIn K (.ref cRule) "moves" = some (some (.ref fRule_moves)))
    (lRule_moves : K.lookup fRule_moves = some ⟨ocRule_moves, odRule_moves, .func (PySem.W.fnOf "moves" "Rule.moves" (defArgs sRule_moves) (defBody sRule_moves) (defScope sRule_moves) .none kVRule_moves dcRule_moves pmRule_moves anRule_moves cdRule_moves ctRule_moves), slRule_moves⟩)
    (ccRule_moves : PySem.W.codeIn K cdRule_moves "Rule.moves" = true)
    (kkRule_moves : PySem.W.keepIn K (.ref fRule_moves) = true)
    (iiRule_moves : PySem.W.isFn K (.ref fRule_moves) = true)
    (aSwaps___init__ : PySem.W.findIn K (.ref cSwaps) "__init__" = some (some (.ref fSwaps___init__)))
    (lSwaps___init__ : K.lookup fSwaps___init__ = some ⟨ocSwaps___init__, odSwaps___init__, .func (PySem.W.fnOf "__init__" "Swaps.__init__" (defArgs sSwaps___init__) (defBody sSwaps___init__) (defScope sSwaps___init__) .none kVSwaps___init__ dcSwaps___init__ pmSwaps___init__ anSwaps___init__ cdSwaps___init__ ctSwaps___init__), slSwaps___init__⟩)
    (ccSwaps___init__ : PySem.W.codeIn K cdSwaps___init__ "Swaps.__init__" = true)
    (kkSwaps___init__ : PySem.W.keepIn K (.ref fSwaps___init__) = true)
    (iiSwaps___init__ : PySem.W.isFn K (.ref fSwaps___init__) = true)
    (aSwaps_good_signs : PySem.W.findIn K (.ref cSwaps) "good_signs" = some (some (.ref fSwaps_good_signs)))
    (lSwaps_good_signs : K.lookup fSwaps_good_signs = some ⟨ocSwaps_good_signs, odSwaps_good_signs, .func (PySem.W.fnOf "good_signs" "Swaps.good_signs" (defArgs sSwaps_good_signs) (defBody sSwaps_good_signs) (defScope sSwaps_good_signs) .none kVSwaps_good_signs dcSwaps_good_signs pmSwaps_good_signs anSwaps_good_signs cdSwaps_good_signs ctSwaps_good_signs), slSwaps_good_signs⟩)
    (ccSwaps_good_signs : PySem.W.codeIn K cdSwaps_good_signs "Swaps.good_signs" = true)
    (kkSwaps_good_signs : PySem.W.keepIn K (.ref fSwaps_good_signs) = true)
    (iiSwaps_good_signs : PySem.W.isFn K (.ref fSwaps_good_signs) = true)
    (aSwaps_is_row : PySem.W.findIn K (.ref cSwaps) "is_row" = some (some (.ref fSwaps_is_row)))
    (lSwaps_is_row : K.lookup fSwaps_is_row = some ⟨ocSwaps_is_row, odSwaps_is_row, .func (PySem.W.fnOf "is_row" "Swaps.is_row" (defArgs sSwaps_is_row) (defBody sSwaps_is_row) (defScope sSwaps_is_row) .none kVSwaps_is_row dcSwaps_is_row pmSwaps_is_row anSwaps_is_row cdSwaps_is_row ctSwaps_is_row), slSwaps_is_row⟩)
    (ccSwaps_is_row : PySem.W.codeIn K cdSwaps_is_row "Swaps.is_row" = true)
    (kkSwaps_is_row : PySem.W.keepIn K (.ref fSwaps_is_row) = true)
    (iiSwaps_is_row : PySem.W.isFn K (.ref fSwaps_is_row) = true)
    (aSwaps_is_swap : PySem.W.findIn K (.ref cSwaps) "is_swap" = some (some (.ref fSwaps_is_swap)))
    (lSwaps_is_swap : K.lookup fSwaps_is_swap = some ⟨ocSwaps_is_swap, odSwaps_is_swap, .func (PySem.W.fnOf "is_swap" "Swaps.is_swap" (defArgs sSwaps_is_swap) (defBody sSwaps_is_swap) (defScope sSwaps_is_swap) .none kVSwaps_is_swap dcSwaps_is_swap pmSwaps_is_swap anSwaps_is_swap cdSwaps_is_swap ctSwaps_is_swap), slSwaps_is_swap⟩)
    (ccSwaps_is_swap : PySem.W.codeIn K cdSwaps_is_swap "Swaps.is_swap" = true)
    (kkSwaps_is_swap : PySem.W.keepIn K (.ref fSwaps_is_swap) = true)
    (iiSwaps_is_swap : PySem.W.isFn K (.ref fSwaps_is_swap) = true)
    (aSwaps_good_swaps : PySem.W.findIn K (.ref cSwaps) "good_swaps" = some (some (.ref fSwaps_good_swaps)))
    (lSwaps_good_swaps : K.lookup fSwaps_good_swaps = some ⟨ocSwaps_good_swaps, odSwaps_good_swaps, .func (PySem.W.fnOf "good_swaps" "Swaps.good_swaps" (defArgs sSwaps_good_swaps) (defBody sSwaps_good_swaps) (defScope sSwaps_good_swaps) .none kVSwaps_good_swaps dcSwaps_good_swaps pmSwaps_good_swaps anSwaps_good_swaps cdSwaps_good_swaps ctSwaps_good_swaps), slSwaps_good_swaps⟩)
    (ccSwaps_good_swaps : PySem.W.codeIn K cdSwaps_good_swaps "Swaps.good_swaps" = true)
    (kkSwaps_good_swaps : PySem.W.keepIn K (.ref fSwaps_good_swaps) = true)
    (iiSwaps_good_swaps : PySem.W.isFn K (.ref fSwaps_good_swaps) = true)
    (aSwaps_is_board : PySem.W.findIn K (.ref cSwaps) "is_board" = some (some (.ref fSwaps_is_board)))
    (lSwaps_is_board : K.lookup fSwaps_is_board = some ⟨ocSwaps_is_board, odSwaps_is_board, .func (PySem.W.fnOf "is_board" "Swaps.is_board" (defArgs sSwaps_is_board) (defBody sSwaps_is_board) (defScope sSwaps_is_board) .none kVSwaps_is_board dcSwaps_is_board pmSwaps_is_board anSwaps_is_board cdSwaps_is_board ctSwaps_is_board), slSwaps_is_board⟩)
    (ccSwaps_is_board : PySem.W.codeIn K cdSwaps_is_board "Swaps.is_board" = true)
    (kkSwaps_is_board : PySem.W.keepIn K (.ref fSwaps_is_board) = true)
    (iiSwaps_is_board : PySem.W.isFn K (.ref fSwaps_is_board) = true)
    (aSwaps_weight : PySem.W.findIn K (.ref cSwaps) "weight" = some (some (.ref fSwaps_weight)))
    (lSwaps_weight : K.lookup fSwaps_weight = some ⟨ocSwaps_weight, odSwaps_weight, .func (PySem.W.fnOf "weight" "Swaps.weight" (defArgs sSwaps_weight) (defBody sSwaps_weight) (defScope sSwaps_weight) .none kVSwaps_weight dcSwaps_weight pmSwaps_weight anSwaps_weight cdSwaps_weight ctSwaps_weight), slSwaps_weight⟩)
    (ccSwaps_weight : PySem.W.codeIn K cdSwaps_weight "Swaps.weight" = true)
    (kkSwaps_weight : PySem.W.keepIn K (.ref fSwaps_weight) = true)
    (iiSwaps_weight : PySem.W.isFn K (.ref fSwaps_weight) = true)
    (aSwaps_changed : PySem.W.findIn K (.ref cSwaps) "changed" = some (some (.ref fSwaps_changed)))
    (lSwaps_changed : K.lookup fSwaps_changed = some ⟨ocSwaps_changed, odSwaps_changed, .func (PySem.W.fnOf "changed" "Swaps.changed" (defArgs sSwaps_changed) (defBody sSwaps_changed) (defScope sSwaps_changed) .none kVSwaps_changed dcSwaps_changed pmSwaps_changed anSwaps_changed cdSwaps_changed ctSwaps_changed), slSwaps_changed⟩)
    (ccSwaps_changed : PySem.W.codeIn K cdSwaps_changed "Swaps.changed" = true)
    (kkSwaps_changed : PySem.W.keepIn K (.ref fSwaps_changed) = true)
    (iiSwaps_changed : PySem.W.isFn K (.ref fSwaps_changed) = true)
    (aTurned___init__ : PySem.W.findIn K (.ref cTurned) "__init__" = some (some (.ref fTurned___init__)))
    (lTurned___init__ : K.lookup fTurned___init__ = some ⟨ocTurned___init__, odTurned___init__, .func (PySem.W.fnOf "__init__" "Turned.__init__" (defArgs sTurned___init__) (defBody sTurned___init__) (defScope sTurned___init__) .none kVTurned___init__ dcTurned___init__ pmTurned___init__ anTurned___init__ cdTurned___init__ ctTurned___init__), slTurned___init__⟩)
    (ccTurned___init__ : PySem.W.codeIn K cdTurned___init__ "Turned.__init__" = true)
    (kkTurned___init__ : PySem.W.keepIn K (.ref fTurned___init__) = true)
    (iiTurned___init__ : PySem.W.isFn K (.ref fTurned___init__) = true)
    (aTurned_is_board : PySem.W.findIn K (.ref cTurned) "is_board" = some (some (.ref fTurned_is_board)))
    (lTurned_is_board : K.lookup fTurned_is_board = some ⟨ocTurned_is_board, odTurned_is_board, .func (PySem.W.fnOf "is_board" "Turned.is_board" (defArgs sTurned_is_board) (defBody sTurned_is_board) (defScope sTurned_is_board) .none kVTurned_is_board dcTurned_is_board pmTurned_is_board anTurned_is_board cdTurned_is_board ctTurned_is_board), slTurned_is_board⟩)
    (ccTurned_is_board : PySem.W.codeIn K cdTurned_is_board "Turned.is_board" = true)
    (kkTurned_is_board : PySem.W.keepIn K (.ref fTurned_is_board) = true)
    (iiTurned_is_board : PySem.W.isFn K (.ref fTurned_is_board) = true)
    (aTurned_changed : PySem.W.findIn K (.ref cTurned) "changed" = some (some (.ref fTurned_changed)))
    (lTurned_changed : K.lookup fTurned_changed = some ⟨ocTurned_changed, odTurned_changed, .func (PySem.W.fnOf "changed" "Turned.changed" (defArgs sTurned_changed) (defBody sTurned_changed) (defScope sTurned_changed) .none kVTurned_changed dcTurned_changed pmTurned_changed anTurned_changed cdTurned_changed ctTurned_changed), slTurned_changed⟩)
    (ccTurned_changed : PySem.W.codeIn K cdTurned_changed "Turned.changed" = true)
    (kkTurned_changed : PySem.W.keepIn K (.ref fTurned_changed) = true)
    (iiTurned_changed : PySem.W.isFn K (.ref fTurned_changed) = true)
    (alaw_next : PySem.W.nsIn K mainGlobals "_law_next" = some (some (.ref flaw_next)))
    (llaw_next : K.lookup flaw_next = some ⟨oclaw_next, odlaw_next, .func (PySem.W.fnOf "_law_next" "_law_next" (defArgs slaw_next) (defBody slaw_next) (defScope slaw_next) .none kVlaw_next dclaw_next pmlaw_next anlaw_next cdlaw_next ctlaw_next), sllaw_next⟩)
    (cclaw_next : PySem.W.codeIn K cdlaw_next "_law_next" = true)
    (kklaw_next : PySem.W.keepIn K (.ref flaw_next) = true)
    (alaw_cell : PySem.W.nsIn K mainGlobals "_law_cell" = some (some (.ref flaw_cell)))
    (llaw_cell : K.lookup flaw_cell = some ⟨oclaw_cell, odlaw_cell, .func (PySem.W.fnOf "_law_cell" "_law_cell" (defArgs slaw_cell) (defBody slaw_cell) (defScope slaw_cell) .none kVlaw_cell dclaw_cell pmlaw_cell anlaw_cell cdlaw_cell ctlaw_cell), sllaw_cell⟩)
    (cclaw_cell : PySem.W.codeIn K cdlaw_cell "_law_cell" = true)
    (kklaw_cell : PySem.W.keepIn K (.ref flaw_cell) = true)
    (alaw_state : PySem.W.nsIn K mainGlobals "_law_state" = some (some (.ref flaw_state)))
    (llaw_state : K.lookup flaw_state = some ⟨oclaw_state, odlaw_state, .func (PySem.W.fnOf "_law_state" "_law_state" (defArgs slaw_state) (defBody slaw_state) (defScope slaw_state) .none kVlaw_state dclaw_state pmlaw_state anlaw_state cdlaw_state ctlaw_state), sllaw_state⟩)
    (cclaw_state : PySem.W.codeIn K cdlaw_state "_law_state" = true)
    (kklaw_state : PySem.W.keepIn K (.ref flaw_state) = true)
    (alaw_signs : PySem.W.nsIn K mainGlobals "_law_signs" = some (some (.ref flaw_signs)))
    (llaw_signs : K.lookup flaw_signs = some ⟨oclaw_signs, odlaw_signs, .func (PySem.W.fnOf "_law_signs" "_law_signs" (defArgs slaw_signs) (defBody slaw_signs) (defScope slaw_signs) .none kVlaw_signs dclaw_signs pmlaw_signs anlaw_signs cdlaw_signs ctlaw_signs), sllaw_signs⟩)
    (cclaw_signs : PySem.W.codeIn K cdlaw_signs "_law_signs" = true)
    (kklaw_signs : PySem.W.keepIn K (.ref flaw_signs) = true)
    (alaw_heavy : PySem.W.nsIn K mainGlobals "_law_heavy" = some (some (.ref flaw_heavy)))
    (llaw_heavy : K.lookup flaw_heavy = some ⟨oclaw_heavy, odlaw_heavy, .func (PySem.W.fnOf "_law_heavy" "_law_heavy" (defArgs slaw_heavy) (defBody slaw_heavy) (defScope slaw_heavy) .none kVlaw_heavy dclaw_heavy pmlaw_heavy anlaw_heavy cdlaw_heavy ctlaw_heavy), sllaw_heavy⟩)
    (cclaw_heavy : PySem.W.codeIn K cdlaw_heavy "_law_heavy" = true)
    (kklaw_heavy : PySem.W.keepIn K (.ref flaw_heavy) = true)
    (alaw_row : PySem.W.nsIn K mainGlobals "_law_row" = some (some (.ref flaw_row)))
    (llaw_row : K.lookup flaw_row = some ⟨oclaw_row, odlaw_row, .func (PySem.W.fnOf "_law_row" "_law_row" (defArgs slaw_row) (defBody slaw_row) (defScope slaw_row) .none kVlaw_row dclaw_row pmlaw_row anlaw_row cdlaw_row ctlaw_row), sllaw_row⟩)
    (cclaw_row : PySem.W.codeIn K cdlaw_row "_law_row" = true)
    (kklaw_row : PySem.W.keepIn K (.ref flaw_row) = true)
    (alaw_swaps : PySem.W.nsIn K mainGlobals "_law_swaps" = some (some (.ref flaw_swaps)))
    (llaw_swaps : K.lookup flaw_swaps = some ⟨oclaw_swaps, odlaw_swaps, .func (PySem.W.fnOf "_law_swaps" "_law_swaps" (defArgs slaw_swaps) (defBody slaw_swaps) (defScope slaw_swaps) .none kVlaw_swaps dclaw_swaps pmlaw_swaps anlaw_swaps cdlaw_swaps ctlaw_swaps), sllaw_swaps⟩)
    (cclaw_swaps : PySem.W.codeIn K cdlaw_swaps "_law_swaps" = true)
    (kklaw_swaps : PySem.W.keepIn K (.ref flaw_swaps) = true)
    (alaw_moves : PySem.W.nsIn K mainGlobals "_law_moves" = some (some (.ref flaw_moves)))
    (llaw_moves : K.lookup flaw_moves = some ⟨oclaw_moves, odlaw_moves, .func (PySem.W.fnOf "_law_moves" "_law_moves" (defArgs slaw_moves) (defBody slaw_moves) (defScope slaw_moves) .none kVlaw_moves dclaw_moves pmlaw_moves anlaw_moves cdlaw_moves ctlaw_moves), sllaw_moves⟩)
    (cclaw_moves : PySem.W.codeIn K cdlaw_moves "_law_moves" = true)
    (kklaw_moves : PySem.W.keepIn K (.ref flaw_moves) = true)
    (alaw_told : PySem.W.nsIn K mainGlobals "_law_told" = some (some (.ref flaw_told)))
    (llaw_told : K.lookup flaw_told = some ⟨oclaw_told, odlaw_told, .func (PySem.W.fnOf "_law_told" "_law_told" (defArgs slaw_told) (defBody slaw_told) (defScope slaw_told) .none kVlaw_told dclaw_told pmlaw_told anlaw_told cdlaw_told ctlaw_told), sllaw_told⟩)
    (cclaw_told : PySem.W.codeIn K cdlaw_told "_law_told" = true)
    (kklaw_told : PySem.W.keepIn K (.ref flaw_told) = true)
    (alaw_board : PySem.W.nsIn K mainGlobals "_law_board" = some (some (.ref flaw_board)))
    (llaw_board : K.lookup flaw_board = some ⟨oclaw_board, odlaw_board, .func (PySem.W.fnOf "_law_board" "_law_board" (defArgs slaw_board) (defBody slaw_board) (defScope slaw_board) .none kVlaw_board dclaw_board pmlaw_board anlaw_board cdlaw_board ctlaw_board), sllaw_board⟩)
    (cclaw_board : PySem.W.codeIn K cdlaw_board "_law_board" = true)
    (kklaw_board : PySem.W.keepIn K (.ref flaw_board) = true)
    (alaw : PySem.W.nsIn K mainGlobals "law" = some (some (.ref flaw)))
    (llaw : K.lookup flaw = some ⟨oclaw, odlaw, .func (PySem.W.fnOf "law" "law" (defArgs slaw) (defBody slaw) (defScope slaw) .none kVlaw dclaw pmlaw anlaw cdlaw ctlaw), sllaw⟩)
    (cclaw : PySem.W.codeIn K cdlaw "law" = true)
    (kklaw : PySem.W.keepIn K (.ref flaw) = true)
    (pg_Swaps : PySem.W.plainGet K cSwaps Str.empty = true)
    (hd_Swaps : PySem.W.hasDictIn K cSwaps = true)
    (po_Swaps : PySem.W.plainOver K cSwaps = true)
    (sa_Swaps : PySem.W.findIn K (.ref cSwaps) "__setattr__" = some (some (.builtin "object.__setattr__")))
    (mk_Swaps : PySem.W.makesIn K cSwaps = true)
    (kc_Swaps : PySem.W.keepIn K (.ref cSwaps) = true)
    (oc_Swaps : PySem.W.findIn K (.ref cSwaps) "__class__" = some (some (.builtin "object.__class__")))
    (om_Swaps : PySem.W.mroIn K cSwaps (.type "object") = some true)
    (na_Swaps_signs : PySem.W.findIn K (.ref cSwaps) "signs" = some none)
    (na_Swaps_swaps : PySem.W.findIn K (.ref cSwaps) "swaps" = some none)
    (fm_Swaps_moves : PySem.W.findIn K (.ref cSwaps) "moves" = some (some (.ref fRule_moves)))
    (ys_Swaps_Rule : PySem.W.subIn K (.ref cSwaps) (.ref cRule) = some true)
    (ys_Swaps_Swaps : PySem.W.subIn K (.ref cSwaps) (.ref cSwaps) = some true)
    (ys_Swaps_Turned : PySem.W.subIn K (.ref cSwaps) (.ref cTurned) = some false)
    (pg_Turned : PySem.W.plainGet K cTurned Str.empty = true)
    (hd_Turned : PySem.W.hasDictIn K cTurned = true)
    (po_Turned : PySem.W.plainOver K cTurned = true)
    (sa_Turned : PySem.W.findIn K (.ref cTurned) "__setattr__" = some (some (.builtin "object.__setattr__")))
    (mk_Turned : PySem.W.makesIn K cTurned = true)
    (kc_Turned : PySem.W.keepIn K (.ref cTurned) = true)
    (oc_Turned : PySem.W.findIn K (.ref cTurned) "__class__" = some (some (.builtin "object.__class__")))
    (om_Turned : PySem.W.mroIn K cTurned (.type "object") = some true)
    (na_Turned_inner : PySem.W.findIn K (.ref cTurned) "inner" = some none)
    (fm_Turned_moves : PySem.W.findIn K (.ref cTurned) "moves" = some (some (.ref fRule_moves)))
    (ys_Turned_Rule : PySem.W.subIn K (.ref cTurned) (.ref cRule) = some true)
    (ys_Turned_Swaps : PySem.W.subIn K (.ref cTurned) (.ref cSwaps) = some false)
    (ys_Turned_Turned : PySem.W.subIn K (.ref cTurned) (.ref cTurned) = some true)
    (og : PySem.W.specialIn K (.builtin "object.__class__") "__get__" = some (some (.builtin "getset_descriptor.__get__")))
    (ot : PySem.W.takesIn K (.builtin "object.__class__") = some true)
    (xi_Rule : PySem.W.isClsIn K cRule = true)
    (xt_Rule : PySem.W.typeIn K (.ref cRule) = some (.type "type"))
    (sd_Rule : PySem.W.subIn K (.ref cRule) (.ref cRule) = some true)
    (xi_Swaps : PySem.W.isClsIn K cSwaps = true)
    (xt_Swaps : PySem.W.typeIn K (.ref cSwaps) = some (.type "type"))
    (sd_Swaps : PySem.W.subIn K (.ref cSwaps) (.ref cSwaps) = some true)
    (xi_Turned : PySem.W.isClsIn K cTurned = true)
    (xt_Turned : PySem.W.typeIn K (.ref cTurned) = some (.type "type"))
    (sd_Turned : PySem.W.subIn K (.ref cTurned) (.ref cTurned) = some true)
    (xk_DuelError : PySem.W.keepIn K (.ref cDuelError) = true)
    (xb_DuelError : PySem.W.subIn K (.ref cDuelError) (.type "BaseException") = some true)
    (xt_DuelError : PySem.W.typeIn K (.ref cDuelError) = some (.type "type"))
    (xi_DuelError : PySem.W.isClsIn K cDuelError = true)
    (xg_DuelError : PySem.W.findIn K (.ref cDuelError) "__getattribute__" = some (some (.builtin "BaseException.__getattribute__")))
    (xq_DuelError : PySem.W.findIn K (.ref cDuelError) "__getattr__" = some none)
    (xd_DuelError : PySem.W.hasDictIn K cDuelError = true)
    (xa_DuelError : PySem.W.findIn K (.ref cDuelError) "__class__" = some (some (.builtin "object.__class__")))
    (xm_DuelError : PySem.W.mroIn K cDuelError (.type "object") = some true)
    (ys_DuelError_DuelError : PySem.W.subIn K (.ref cDuelError) (.ref cDuelError) = some true)
    (ys_DuelError_NoRule : PySem.W.subIn K (.ref cDuelError) (.ref cNoRule) = some false)
    (ys_DuelError_NoBoard : PySem.W.subIn K (.ref cDuelError) (.ref cNoBoard) = some false)
    (ys_DuelError_NoHand : PySem.W.subIn K (.ref cDuelError) (.ref cNoHand) = some false)
    (kv_DuelError : PySem.W.subIn K (.ref cDuelError) (.type "ValueError") = some true)
    (xe_NoRule : PySem.W.excIn K cNoRule [.type "ValueError", .type "Exception", .type "BaseException", .type "object"] "ValueError.__new__" = true)
    (xk_NoRule : PySem.W.keepIn K (.ref cNoRule) = true)
    (xb_NoRule : PySem.W.subIn K (.ref cNoRule) (.type "BaseException") = some true)
    (xt_NoRule : PySem.W.typeIn K (.ref cNoRule) = some (.type "type"))
    (xi_NoRule : PySem.W.isClsIn K cNoRule = true)
    (xg_NoRule : PySem.W.findIn K (.ref cNoRule) "__getattribute__" = some (some (.builtin "BaseException.__getattribute__")))
    (xq_NoRule : PySem.W.findIn K (.ref cNoRule) "__getattr__" = some none)
    (xd_NoRule : PySem.W.hasDictIn K cNoRule = true)
    (xa_NoRule : PySem.W.findIn K (.ref cNoRule) "__class__" = some (some (.builtin "object.__class__")))
    (xm_NoRule : PySem.W.mroIn K cNoRule (.type "object") = some true)
    (ys_NoRule_DuelError : PySem.W.subIn K (.ref cNoRule) (.ref cDuelError) = some true)
    (ys_NoRule_NoRule : PySem.W.subIn K (.ref cNoRule) (.ref cNoRule) = some true)
    (ys_NoRule_NoBoard : PySem.W.subIn K (.ref cNoRule) (.ref cNoBoard) = some false)
    (ys_NoRule_NoHand : PySem.W.subIn K (.ref cNoRule) (.ref cNoHand) = some false)
    (kv_NoRule : PySem.W.subIn K (.ref cNoRule) (.type "ValueError") = some true)
    (xe_NoBoard : PySem.W.excIn K cNoBoard [.type "ValueError", .type "Exception", .type "BaseException", .type "object"] "ValueError.__new__" = true)
    (xk_NoBoard : PySem.W.keepIn K (.ref cNoBoard) = true)
    (xb_NoBoard : PySem.W.subIn K (.ref cNoBoard) (.type "BaseException") = some true)
    (xt_NoBoard : PySem.W.typeIn K (.ref cNoBoard) = some (.type "type"))
    (xi_NoBoard : PySem.W.isClsIn K cNoBoard = true)
    (xg_NoBoard : PySem.W.findIn K (.ref cNoBoard) "__getattribute__" = some (some (.builtin "BaseException.__getattribute__")))
    (xq_NoBoard : PySem.W.findIn K (.ref cNoBoard) "__getattr__" = some none)
    (xd_NoBoard : PySem.W.hasDictIn K cNoBoard = true)
    (xa_NoBoard : PySem.W.findIn K (.ref cNoBoard) "__class__" = some (some (.builtin "object.__class__")))
    (xm_NoBoard : PySem.W.mroIn K cNoBoard (.type "object") = some true)
    (ys_NoBoard_DuelError : PySem.W.subIn K (.ref cNoBoard) (.ref cDuelError) = some true)
    (ys_NoBoard_NoRule : PySem.W.subIn K (.ref cNoBoard) (.ref cNoRule) = some false)
    (ys_NoBoard_NoBoard : PySem.W.subIn K (.ref cNoBoard) (.ref cNoBoard) = some true)
    (ys_NoBoard_NoHand : PySem.W.subIn K (.ref cNoBoard) (.ref cNoHand) = some false)
    (kv_NoBoard : PySem.W.subIn K (.ref cNoBoard) (.type "ValueError") = some true)
    (xe_NoHand : PySem.W.excIn K cNoHand [.type "ValueError", .type "Exception", .type "BaseException", .type "object"] "ValueError.__new__" = true)
    (xk_NoHand : PySem.W.keepIn K (.ref cNoHand) = true)
    (xb_NoHand : PySem.W.subIn K (.ref cNoHand) (.type "BaseException") = some true)
    (xt_NoHand : PySem.W.typeIn K (.ref cNoHand) = some (.type "type"))
    (xi_NoHand : PySem.W.isClsIn K cNoHand = true)
    (xg_NoHand : PySem.W.findIn K (.ref cNoHand) "__getattribute__" = some (some (.builtin "BaseException.__getattribute__")))
    (xq_NoHand : PySem.W.findIn K (.ref cNoHand) "__getattr__" = some none)
    (xd_NoHand : PySem.W.hasDictIn K cNoHand = true)
    (xa_NoHand : PySem.W.findIn K (.ref cNoHand) "__class__" = some (some (.builtin "object.__class__")))
    (xm_NoHand : PySem.W.mroIn K cNoHand (.type "object") = some true)
    (ys_NoHand_DuelError : PySem.W.subIn K (.ref cNoHand) (.ref cDuelError) = some true)
    (ys_NoHand_NoRule : PySem.W.subIn K (.ref cNoHand) (.ref cNoRule) = some false)
    (ys_NoHand_NoBoard : PySem.W.subIn K (.ref cNoHand) (.ref cNoBoard) = some false)
    (ys_NoHand_NoHand : PySem.W.subIn K (.ref cNoHand) (.ref cNoHand) = some true)
    (kv_NoHand : PySem.W.subIn K (.ref cNoHand) (.type "ValueError") = some true)
    (zz_all : PySem.W.nsIn K mainGlobals "all" = some none)
    (zz_bool : PySem.W.nsIn K mainGlobals "bool" = some none)
    (zz_dict : PySem.W.nsIn K mainGlobals "dict" = some none)
    (zz_int : PySem.W.nsIn K mainGlobals "int" = some none)
    (zz_isinstance : PySem.W.nsIn K mainGlobals "isinstance" = some none)
    (zz_len : PySem.W.nsIn K mainGlobals "len" = some none)
    (zz_list : PySem.W.nsIn K mainGlobals "list" = some none)
    (zz_ord : PySem.W.nsIn K mainGlobals "ord" = some none)
    (zz_range : PySem.W.nsIn K mainGlobals "range" = some none)
    (zz_set : PySem.W.nsIn K mainGlobals "set" = some none)
    (zz_sorted : PySem.W.nsIn K mainGlobals "sorted" = some none)
    (zz_str : PySem.W.nsIn K mainGlobals "str" = some none)
    (zz_sum : PySem.W.nsIn K mainGlobals "sum" = some none)
    (zz_tuple : PySem.W.nsIn K mainGlobals "tuple" = some none)
    (kn_FIRST : PySem.W.nsIn K mainGlobals "FIRST" = some (some (.str "!" tFIRST)))
    (kn_LAST : PySem.W.nsIn K mainGlobals "LAST" = some (some (.str "~" tLAST)))
    (kn_MOST_SIGNS : PySem.W.nsIn K mainGlobals "MOST_SIGNS" = some (some (.int 8 tMOST_SIGNS)))
    (kn_MOST_WEIGHT : PySem.W.nsIn K mainGlobals "MOST_WEIGHT" = some (some (.int 9 tMOST_WEIGHT)))
    (kn_MOST_SWAPS : PySem.W.nsIn K mainGlobals "MOST_SWAPS" = some (some (.int 8 tMOST_SWAPS)))
    (kn_LONGEST_SWAP : PySem.W.nsIn K mainGlobals "LONGEST_SWAP" = some (some (.int 4 tLONGEST_SWAP)))
    (kn_LONGEST_BOARD : PySem.W.nsIn K mainGlobals "LONGEST_BOARD" = some (some (.int 10 tLONGEST_BOARD)))
    (kn_HANDS : PySem.W.nsIn K mainGlobals "HANDS" = some (some (.ref aHANDS)))
    (kl_HANDS : K.lookup aHANDS = some ⟨.type "tuple", ddHANDS, .seq #[.str "up" tHANDS0, .str "down" tHANDS1] nnHANDS, ssHANDS⟩)
    : ∃ fd : FuncData, (∀ (s : Shared) (v : Value), BindsTo s fd ⟨[v], []⟩ [("_law_script", v)]) ∧ ∀ base : Heap, K.In base → base.Ns mainGlobals mg → FnOk l.prog w K mg base CX0 12 fa fd ["_law_script"] (spLaw K) := by
  have e := hfa.symm.trans (PySem.W.mg_of X G alaw)
  cases e
  let A : Ad := { fis_number := fis_number, dis_number := PySem.W.fnOf "is_number" "is_number" (defArgs sis_number) (defBody sis_number) (defScope sis_number) .none kVis_number dcis_number pmis_number anis_number cdis_number ctis_number, fRule_moves := fRule_moves, dRule_moves := PySem.W.fnOf "moves" "Rule.moves" (defArgs sRule_moves) (defBody sRule_moves) (defScope sRule_moves) .none kVRule_moves dcRule_moves pmRule_moves anRule_moves cdRule_moves ctRule_moves, fSwaps___init__ := fSwaps___init__, dSwaps___init__ := PySem.W.fnOf "__init__" "Swaps.__init__" (defArgs sSwaps___init__) (defBody sSwaps___init__) (defScope sSwaps___init__) .none kVSwaps___init__ dcSwaps___init__ pmSwaps___init__ anSwaps___init__ cdSwaps___init__ ctSwaps___init__, fSwaps_good_signs := fSwaps_good_signs, dSwaps_good_signs := PySem.W.fnOf "good_signs" "Swaps.good_signs" (defArgs sSwaps_good_signs) (defBody sSwaps_good_signs) (defScope sSwaps_good_signs) .none kVSwaps_good_signs dcSwaps_good_signs pmSwaps_good_signs anSwaps_good_signs cdSwaps_good_signs ctSwaps_good_signs, fSwaps_is_row := fSwaps_is_row, dSwaps_is_row := PySem.W.fnOf "is_row" "Swaps.is_row" (defArgs sSwaps_is_row) (defBody sSwaps_is_row) (defScope sSwaps_is_row) .none kVSwaps_is_row dcSwaps_is_row pmSwaps_is_row anSwaps_is_row cdSwaps_is_row ctSwaps_is_row, fSwaps_is_swap := fSwaps_is_swap, dSwaps_is_swap := PySem.W.fnOf "is_swap" "Swaps.is_swap" (defArgs sSwaps_is_swap) (defBody sSwaps_is_swap) (defScope sSwaps_is_swap) .none kVSwaps_is_swap dcSwaps_is_swap pmSwaps_is_swap anSwaps_is_swap cdSwaps_is_swap ctSwaps_is_swap, fSwaps_good_swaps := fSwaps_good_swaps, dSwaps_good_swaps := PySem.W.fnOf "good_swaps" "Swaps.good_swaps" (defArgs sSwaps_good_swaps) (defBody sSwaps_good_swaps) (defScope sSwaps_good_swaps) .none kVSwaps_good_swaps dcSwaps_good_swaps pmSwaps_good_swaps anSwaps_good_swaps cdSwaps_good_swaps ctSwaps_good_swaps, fSwaps_is_board := fSwaps_is_board, dSwaps_is_board := PySem.W.fnOf "is_board" "Swaps.is_board" (defArgs sSwaps_is_board) (defBody sSwaps_is_board) (defScope sSwaps_is_board) .none kVSwaps_is_board dcSwaps_is_board pmSwaps_is_board anSwaps_is_board cdSwaps_is_board ctSwaps_is_board, fSwaps_weight := fSwaps_weight, dSwaps_weight := PySem.W.fnOf "weight" "Swaps.weight" (defArgs sSwaps_weight) (defBody sSwaps_weight) (defScope sSwaps_weight) .none kVSwaps_weight dcSwaps_weight pmSwaps_weight anSwaps_weight cdSwaps_weight ctSwaps_weight, fSwaps_changed := fSwaps_changed, dSwaps_changed := PySem.W.fnOf "changed" "Swaps.changed" (defArgs sSwaps_changed) (defBody sSwaps_changed) (defScope sSwaps_changed) .none kVSwaps_changed dcSwaps_changed pmSwaps_changed anSwaps_changed cdSwaps_changed ctSwaps_changed, fTurned___init__ := fTurned___init__, dTurned___init__ := PySem.W.fnOf "__init__" "Turned.__init__" (defArgs sTurned___init__) (defBody sTurned___init__) (defScope sTurned___init__) .none kVTurned___init__ dcTurned___init__ pmTurned___init__ anTurned___init__ cdTurned___init__ ctTurned___init__, fTurned_is_board := fTurned_is_board, dTurned_is_board := PySem.W.fnOf "is_board" "Turned.is_board" (defArgs sTurned_is_board) (defBody sTurned_is_board) (defScope sTurned_is_board) .none kVTurned_is_board dcTurned_is_board pmTurned_is_board anTurned_is_board cdTurned_is_board ctTurned_is_board, fTurned_changed := fTurned_changed, dTurned_changed := PySem.W.fnOf "changed" "Turned.changed" (defArgs sTurned_changed) (defBody sTurned_changed) (defScope sTurned_changed) .none kVTurned_changed dcTurned_changed pmTurned_changed anTurned_changed cdTurned_changed ctTurned_changed, flaw_next := flaw_next, dlaw_next := PySem.W.fnOf "_law_next" "_law_next" (defArgs slaw_next) (defBody slaw_next) (defScope slaw_next) .none kVlaw_next dclaw_next pmlaw_next anlaw_next cdlaw_next ctlaw_next, flaw_cell := flaw_cell, dlaw_cell := PySem.W.fnOf "_law_cell" "_law_cell" (defArgs slaw_cell) (defBody slaw_cell) (defScope slaw_cell) .none kVlaw_cell dclaw_cell pmlaw_cell anlaw_cell cdlaw_cell ctlaw_cell, flaw_state := flaw_state, dlaw_state := PySem.W.fnOf "_law_state" "_law_state" (defArgs slaw_state) (defBody slaw_state) (defScope slaw_state) .none kVlaw_state dclaw_state pmlaw_state anlaw_state cdlaw_state ctlaw_state, flaw_signs := flaw_signs, dlaw_signs := PySem.W.fnOf "_law_signs" "_law_signs" (defArgs slaw_signs) (defBody slaw_signs) (defScope slaw_signs) .none kVlaw_signs dclaw_signs pmlaw_signs anlaw_signs cdlaw_signs ctlaw_signs, flaw_heavy := flaw_heavy, dlaw_heavy := PySem.W.fnOf "_law_heavy" "_law_heavy" (defArgs slaw_heavy) (defBody slaw_heavy) (defScope slaw_heavy) .none kVlaw_heavy dclaw_heavy pmlaw_heavy anlaw_heavy cdlaw_heavy ctlaw_heavy, flaw_row := flaw_row, dlaw_row := PySem.W.fnOf "_law_row" "_law_row" (defArgs slaw_row) (defBody slaw_row) (defScope slaw_row) .none kVlaw_row dclaw_row pmlaw_row anlaw_row cdlaw_row ctlaw_row, flaw_swaps := flaw_swaps, dlaw_swaps := PySem.W.fnOf "_law_swaps" "_law_swaps" (defArgs slaw_swaps) (defBody slaw_swaps) (defScope slaw_swaps) .none kVlaw_swaps dclaw_swaps pmlaw_swaps anlaw_swaps cdlaw_swaps ctlaw_swaps, flaw_moves := flaw_moves, dlaw_moves := PySem.W.fnOf "_law_moves" "_law_moves" (defArgs slaw_moves) (defBody slaw_moves) (defScope slaw_moves) .none kVlaw_moves dclaw_moves pmlaw_moves anlaw_moves cdlaw_moves ctlaw_moves, flaw_told := flaw_told, dlaw_told := PySem.W.fnOf "_law_told" "_law_told" (defArgs slaw_told) (defBody slaw_told) (defScope slaw_told) .none kVlaw_told dclaw_told pmlaw_told anlaw_told cdlaw_told ctlaw_told, flaw_board := flaw_board, dlaw_board := PySem.W.fnOf "_law_board" "_law_board" (defArgs slaw_board) (defBody slaw_board) (defScope slaw_board) .none kVlaw_board dclaw_board pmlaw_board anlaw_board cdlaw_board ctlaw_board, flaw := fa, dlaw := PySem.W.fnOf "law" "law" (defArgs slaw) (defBody slaw) (defScope slaw) .none kVlaw dclaw pmlaw anlaw cdlaw ctlaw, cDuelError := cDuelError, cNoRule := cNoRule, cNoBoard := cNoBoard, cNoHand := cNoHand, cRule := cRule, cSwaps := cSwaps, cTurned := cTurned, aHANDS := aHANDS }
  have T : Txt K mg A := {
    Fis_number := fun_mk (st := sis_number) lis_number ccis_number kkis_number,
    Bis_number := (fun_mk (st := sis_number) lis_number ccis_number kkis_number).binds (ps := ["thing", "least", "most"]) fun _ _ _ _ _ _ us hl => match us, hl with | [_, _, _], _ => rfl,
    mis_number := PySem.W.mg_of X G ais_number,
    FRule_moves := fun_mk (st := sRule_moves) lRule_moves ccRule_moves kkRule_moves,
    BRule_moves := (fun_mk (st := sRule_moves) lRule_moves ccRule_moves kkRule_moves).binds (ps := ["self", "board", "hand"]) fun _ _ _ _ _ _ us hl => match us, hl with | [_, _, _], _ => rfl,
    FSwaps___init__ := fun_mk (st := sSwaps___init__) lSwaps___init__ ccSwaps___init__ kkSwaps___init__,
    BSwaps___init__ := (fun_mk (st := sSwaps___init__) lSwaps___init__ ccSwaps___init__ kkSwaps___init__).binds (ps := ["self", "signs", "ups", "downs"]) fun _ _ _ _ _ _ us hl => match us, hl with | [_, _, _, _], _ => rfl,
    FSwaps_good_signs := fun_mk (st := sSwaps_good_signs) lSwaps_good_signs ccSwaps_good_signs kkSwaps_good_signs,
    BSwaps_good_signs := (fun_mk (st := sSwaps_good_signs) lSwaps_good_signs ccSwaps_good_signs kkSwaps_good_signs).binds (ps := ["self", "signs"]) fun _ _ _ _ _ _ us hl => match us, hl with | [_, _], _ => rfl,
    FSwaps_is_row := fun_mk (st := sSwaps_is_row) lSwaps_is_row ccSwaps_is_row kkSwaps_is_row,
    BSwaps_is_row := (fun_mk (st := sSwaps_is_row) lSwaps_is_row ccSwaps_is_row kkSwaps_is_row).binds (ps := ["self", "thing", "longest"]) fun _ _ _ _ _ _ us hl => match us, hl with | [_, _, _], _ => rfl,
    FSwaps_is_swap := fun_mk (st := sSwaps_is_swap) lSwaps_is_swap ccSwaps_is_swap kkSwaps_is_swap,
    BSwaps_is_swap := (fun_mk (st := sSwaps_is_swap) lSwaps_is_swap ccSwaps_is_swap kkSwaps_is_swap).binds (ps := ["self", "swap"]) fun _ _ _ _ _ _ us hl => match us, hl with | [_, _], _ => rfl,
    FSwaps_good_swaps := fun_mk (st := sSwaps_good_swaps) lSwaps_good_swaps ccSwaps_good_swaps kkSwaps_good_swaps,
    BSwaps_good_swaps := (fun_mk (st := sSwaps_good_swaps) lSwaps_good_swaps ccSwaps_good_swaps kkSwaps_good_swaps).binds (ps := ["self", "swaps"]) fun _ _ _ _ _ _ us hl => match us, hl with | [_, _], _ => rfl,
    FSwaps_is_board := fun_mk (st := sSwaps_is_board) lSwaps_is_board ccSwaps_is_board kkSwaps_is_board,
    BSwaps_is_board := (fun_mk (st := sSwaps_is_board) lSwaps_is_board ccSwaps_is_board kkSwaps_is_board).binds (ps := ["self", "board"]) fun _ _ _ _ _ _ us hl => match us, hl with | [_, _], _ => rfl,
    FSwaps_weight := fun_mk (st := sSwaps_weight) lSwaps_weight ccSwaps_weight kkSwaps_weight,
    BSwaps_weight := (fun_mk (st := sSwaps_weight) lSwaps_weight ccSwaps_weight kkSwaps_weight).binds (ps := ["self", "board"]) fun _ _ _ _ _ _ us hl => match us, hl with | [_, _], _ => rfl,
    FSwaps_changed := fun_mk (st := sSwaps_changed) lSwaps_changed ccSwaps_changed kkSwaps_changed,
    BSwaps_changed := (fun_mk (st := sSwaps_changed) lSwaps_changed ccSwaps_changed kkSwaps_changed).binds (ps := ["self", "board", "hand"]) fun _ _ _ _ _ _ us hl => match us, hl with | [_, _, _], _ => rfl,
    FTurned___init__ := fun_mk (st := sTurned___init__) lTurned___init__ ccTurned___init__ kkTurned___init__,
    BTurned___init__ := (fun_mk (st := sTurned___init__) lTurned___init__ ccTurned___init__ kkTurned___init__).binds (ps := ["self", "rule"]) fun _ _ _ _ _ _ us hl => match us, hl with | [_, _], _ => rfl,
    FTurned_is_board := fun_mk (st := sTurned_is_board) lTurned_is_board ccTurned_is_board kkTurned_is_board,
    BTurned_is_board := (fun_mk (st := sTurned_is_board) lTurned_is_board ccTurned_is_board kkTurned_is_board).binds (ps := ["self", "board"]) fun _ _ _ _ _ _ us hl => match us, hl with | [_, _], _ => rfl,
    FTurned_changed := fun_mk (st := sTurned_changed) lTurned_changed ccTurned_changed kkTurned_changed,
    BTurned_changed := (fun_mk (st := sTurned_changed) lTurned_changed ccTurned_changed kkTurned_changed).binds (ps := ["self", "board", "hand"]) fun _ _ _ _ _ _ us hl => match us, hl with | [_, _, _], _ => rfl,
    Flaw_next := fun_mk (st := slaw_next) llaw_next cclaw_next kklaw_next,
    Blaw_next := (fun_mk (st := slaw_next) llaw_next cclaw_next kklaw_next).binds (ps := ["_law_state_here", "_law_many"]) fun _ _ _ _ _ _ us hl => match us, hl with | [_, _], _ => rfl,
    mlaw_next := PySem.W.mg_of X G alaw_next,
    Flaw_cell := fun_mk (st := slaw_cell) llaw_cell cclaw_cell kklaw_cell,
    Blaw_cell := (fun_mk (st := slaw_cell) llaw_cell cclaw_cell kklaw_cell).binds (ps := ["_law_script", "_law_k"]) fun _ _ _ _ _ _ us hl => match us, hl with | [_, _], _ => rfl,
    mlaw_cell := PySem.W.mg_of X G alaw_cell,
    Flaw_state := fun_mk (st := slaw_state) llaw_state cclaw_state kklaw_state,
    Blaw_state := (fun_mk (st := slaw_state) llaw_state cclaw_state kklaw_state).binds (ps := ["_law_cell_here", "_law_k"]) fun _ _ _ _ _ _ us hl => match us, hl with | [_, _], _ => rfl,
    mlaw_state := PySem.W.mg_of X G alaw_state,
    Flaw_signs := fun_mk (st := slaw_signs) llaw_signs cclaw_signs kklaw_signs,
    Blaw_signs := (fun_mk (st := slaw_signs) llaw_signs cclaw_signs kklaw_signs).binds (ps := ["_law_state_here"]) fun _ _ _ _ _ _ us hl => match us, hl with | [_], _ => rfl,
    mlaw_signs := PySem.W.mg_of X G alaw_signs,
    Flaw_heavy := fun_mk (st := slaw_heavy) llaw_heavy cclaw_heavy kklaw_heavy,
    Blaw_heavy := (fun_mk (st := slaw_heavy) llaw_heavy cclaw_heavy kklaw_heavy).binds (ps := ["_law_signs_here", "_law_text"]) fun _ _ _ _ _ _ us hl => match us, hl with | [_, _], _ => rfl,
    mlaw_heavy := PySem.W.mg_of X G alaw_heavy,
    Flaw_row := fun_mk (st := slaw_row) llaw_row cclaw_row kklaw_row,
    Blaw_row := (fun_mk (st := slaw_row) llaw_row cclaw_row kklaw_row).binds (ps := ["_law_state_here", "_law_signs_here", "_law_many"]) fun _ _ _ _ _ _ us hl => match us, hl with | [_, _, _], _ => rfl,
    mlaw_row := PySem.W.mg_of X G alaw_row,
    Flaw_swaps := fun_mk (st := slaw_swaps) llaw_swaps cclaw_swaps kklaw_swaps,
    Blaw_swaps := (fun_mk (st := slaw_swaps) llaw_swaps cclaw_swaps kklaw_swaps).binds (ps := ["_law_state_here", "_law_signs_here"]) fun _ _ _ _ _ _ us hl => match us, hl with | [_, _], _ => rfl,
    mlaw_swaps := PySem.W.mg_of X G alaw_swaps,
    Flaw_moves := fun_mk (st := slaw_moves) llaw_moves cclaw_moves kklaw_moves,
    Blaw_moves := (fun_mk (st := slaw_moves) llaw_moves cclaw_moves kklaw_moves).binds (ps := ["_law_swaps_here", "_law_board_here"]) fun _ _ _ _ _ _ us hl => match us, hl with | [_, _], _ => rfl,
    mlaw_moves := PySem.W.mg_of X G alaw_moves,
    Flaw_told := fun_mk (st := slaw_told) llaw_told cclaw_told kklaw_told,
    Blaw_told := (fun_mk (st := slaw_told) llaw_told cclaw_told kklaw_told).binds (ps := ["_law_rule", "_law_board_here", "_law_hand"]) fun _ _ _ _ _ _ us hl => match us, hl with | [_, _, _], _ => rfl,
    mlaw_told := PySem.W.mg_of X G alaw_told,
    Flaw_board := fun_mk (st := slaw_board) llaw_board cclaw_board kklaw_board,
    Blaw_board := (fun_mk (st := slaw_board) llaw_board cclaw_board kklaw_board).binds (ps := ["_law_state_here", "_law_signs_here"]) fun _ _ _ _ _ _ us hl => match us, hl with | [_, _], _ => rfl,
    mlaw_board := PySem.W.mg_of X G alaw_board,
    Flaw := fun_mk (st := slaw) llaw cclaw kklaw,
    Blaw := (fun_mk (st := slaw) llaw cclaw kklaw).binds (ps := ["_law_script"]) fun _ _ _ _ _ _ us hl => match us, hl with | [_], _ => rfl,
    mlaw := PySem.W.mg_of X G alaw,
    mDuelError := PySem.W.mg_of X G nDuelError,
    mNoRule := PySem.W.mg_of X G nNoRule,
    mNoBoard := PySem.W.mg_of X G nNoBoard,
    mNoHand := PySem.W.mg_of X G nNoHand,
    mRule := PySem.W.mg_of X G nRule,
    mSwaps := PySem.W.mg_of X G nSwaps,
    mTurned := PySem.W.mg_of X G nTurned,
    clSwaps := ⟨pg_Swaps, hd_Swaps, po_Swaps, sa_Swaps⟩,
    coSwaps := ⟨oc_Swaps, og, ot, om_Swaps⟩,
    mkSwaps := ⟨mk_Swaps, aSwaps___init__, iiSwaps___init__, kc_Swaps⟩,
    nSwaps_signs := na_Swaps_signs,
    nSwaps_swaps := na_Swaps_swaps,
    hSwaps_good_signs := ⟨aSwaps_good_signs, iiSwaps_good_signs, kkSwaps_good_signs⟩,
    hSwaps_is_row := ⟨aSwaps_is_row, iiSwaps_is_row, kkSwaps_is_row⟩,
    hSwaps_is_swap := ⟨aSwaps_is_swap, iiSwaps_is_swap, kkSwaps_is_swap⟩,
    hSwaps_good_swaps := ⟨aSwaps_good_swaps, iiSwaps_good_swaps, kkSwaps_good_swaps⟩,
    hSwaps_is_board := ⟨aSwaps_is_board, iiSwaps_is_board, kkSwaps_is_board⟩,
    hSwaps_weight := ⟨aSwaps_weight, iiSwaps_weight, kkSwaps_weight⟩,
    hSwaps_changed := ⟨aSwaps_changed, iiSwaps_changed, kkSwaps_changed⟩,
    hSwaps_moves := ⟨fm_Swaps_moves, iiRule_moves, kkRule_moves⟩,
    iSwaps_Rule := kit_own xi_Rule xt_Rule sd_Rule ys_Swaps_Rule,
    iSwaps_Swaps := kit_own xi_Swaps xt_Swaps sd_Swaps ys_Swaps_Swaps,
    iSwaps_Turned := kit_own xi_Turned xt_Turned sd_Turned ys_Swaps_Turned,
    clTurned := ⟨pg_Turned, hd_Turned, po_Turned, sa_Turned⟩,
    coTurned := ⟨oc_Turned, og, ot, om_Turned⟩,
    mkTurned := ⟨mk_Turned, aTurned___init__, iiTurned___init__, kc_Turned⟩,
    nTurned_inner := na_Turned_inner,
    hTurned_is_board := ⟨aTurned_is_board, iiTurned_is_board, kkTurned_is_board⟩,
    hTurned_changed := ⟨aTurned_changed, iiTurned_changed, kkTurned_changed⟩,
    hTurned_moves := ⟨fm_Turned_moves, iiRule_moves, kkRule_moves⟩,
    iTurned_Rule := kit_own xi_Rule xt_Rule sd_Rule ys_Turned_Rule,
    iTurned_Swaps := kit_own xi_Swaps xt_Swaps sd_Swaps ys_Turned_Swaps,
    iTurned_Turned := kit_own xi_Turned xt_Turned sd_Turned ys_Turned_Turned,
    i_int_Rule := kit_own xi_Rule xt_Rule sd_Rule (sub_bt (by decide +kernel)),
    i_str_Rule := kit_own xi_Rule xt_Rule sd_Rule (sub_bt (by decide +kernel)),
    i_NoneType_Rule := kit_own xi_Rule xt_Rule sd_Rule (sub_bt (by decide +kernel)),
    i_bool_Rule := kit_own xi_Rule xt_Rule sd_Rule (sub_bt (by decide +kernel)),
    i_list_Rule := kit_own xi_Rule xt_Rule sd_Rule (sub_bt (by decide +kernel)),
    i_tuple_Rule := kit_own xi_Rule xt_Rule sd_Rule (sub_bt (by decide +kernel)),
    i_dict_Rule := kit_own xi_Rule xt_Rule sd_Rule (sub_bt (by decide +kernel)),
    i_int_Swaps := kit_own xi_Swaps xt_Swaps sd_Swaps (sub_bt (by decide +kernel)),
    i_str_Swaps := kit_own xi_Swaps xt_Swaps sd_Swaps (sub_bt (by decide +kernel)),
    i_NoneType_Swaps := kit_own xi_Swaps xt_Swaps sd_Swaps (sub_bt (by decide +kernel)),
    i_bool_Swaps := kit_own xi_Swaps xt_Swaps sd_Swaps (sub_bt (by decide +kernel)),
    i_list_Swaps := kit_own xi_Swaps xt_Swaps sd_Swaps (sub_bt (by decide +kernel)),
    i_tuple_Swaps := kit_own xi_Swaps xt_Swaps sd_Swaps (sub_bt (by decide +kernel)),
    i_dict_Swaps := kit_own xi_Swaps xt_Swaps sd_Swaps (sub_bt (by decide +kernel)),
    i_int_Turned := kit_own xi_Turned xt_Turned sd_Turned (sub_bt (by decide +kernel)),
    i_str_Turned := kit_own xi_Turned xt_Turned sd_Turned (sub_bt (by decide +kernel)),
    i_NoneType_Turned := kit_own xi_Turned xt_Turned sd_Turned (sub_bt (by decide +kernel)),
    i_bool_Turned := kit_own xi_Turned xt_Turned sd_Turned (sub_bt (by decide +kernel)),
    i_list_Turned := kit_own xi_Turned xt_Turned sd_Turned (sub_bt (by decide +kernel)),
    i_tuple_Turned := kit_own xi_Turned xt_Turned sd_Turned (sub_bt (by decide +kernel)),
    i_dict_Turned := kit_own xi_Turned xt_Turned sd_Turned (sub_bt (by decide +kernel)),
    yDuelError_DuelError := PySem.W.exm_ref xb_DuelError xd_DuelError xt_DuelError ys_DuelError_DuelError,
    wDuelError_DuelError := kit_own xi_DuelError xt_DuelError ys_DuelError_DuelError ys_DuelError_DuelError,
    yDuelError_NoRule := PySem.W.exm_ref xb_NoRule xd_NoRule xt_NoRule ys_DuelError_NoRule,
    wDuelError_NoRule := kit_own xi_NoRule xt_NoRule ys_NoRule_NoRule ys_DuelError_NoRule,
    yDuelError_NoBoard := PySem.W.exm_ref xb_NoBoard xd_NoBoard xt_NoBoard ys_DuelError_NoBoard,
    wDuelError_NoBoard := kit_own xi_NoBoard xt_NoBoard ys_NoBoard_NoBoard ys_DuelError_NoBoard,
    yDuelError_NoHand := PySem.W.exm_ref xb_NoHand xd_NoHand xt_NoHand ys_DuelError_NoHand,
    wDuelError_NoHand := kit_own xi_NoHand xt_NoHand ys_NoHand_NoHand ys_DuelError_NoHand,
    vDuelError := kit_typ (by decide +kernel) kv_DuelError,
    xNoRule := ⟨xe_NoRule, xk_NoRule, xb_NoRule, xt_NoRule, xi_NoRule, ⟨xg_NoRule, xq_NoRule, xb_NoRule, xd_NoRule, xa_NoRule, og, ot, xm_NoRule⟩⟩,
    yNoRule_DuelError := PySem.W.exm_ref xb_DuelError xd_DuelError xt_DuelError ys_NoRule_DuelError,
    wNoRule_DuelError := kit_own xi_DuelError xt_DuelError ys_DuelError_DuelError ys_NoRule_DuelError,
    yNoRule_NoRule := PySem.W.exm_ref xb_NoRule xd_NoRule xt_NoRule ys_NoRule_NoRule,
    wNoRule_NoRule := kit_own xi_NoRule xt_NoRule ys_NoRule_NoRule ys_NoRule_NoRule,
    yNoRule_NoBoard := PySem.W.exm_ref xb_NoBoard xd_NoBoard xt_NoBoard ys_NoRule_NoBoard,
    wNoRule_NoBoard := kit_own xi_NoBoard xt_NoBoard ys_NoBoard_NoBoard ys_NoRule_NoBoard,
    yNoRule_NoHand := PySem.W.exm_ref xb_NoHand xd_NoHand xt_NoHand ys_NoRule_NoHand,
    wNoRule_NoHand := kit_own xi_NoHand xt_NoHand ys_NoHand_NoHand ys_NoRule_NoHand,
    vNoRule := kit_typ (by decide +kernel) kv_NoRule,
    xNoBoard := ⟨xe_NoBoard, xk_NoBoard, xb_NoBoard, xt_NoBoard, xi_NoBoard, ⟨xg_NoBoard, xq_NoBoard, xb_NoBoard, xd_NoBoard, xa_NoBoard, og, ot, xm_NoBoard⟩⟩,
    yNoBoard_DuelError := PySem.W.exm_ref xb_DuelError xd_DuelError xt_DuelError ys_NoBoard_DuelError,
    wNoBoard_DuelError := kit_own xi_DuelError xt_DuelError ys_DuelError_DuelError ys_NoBoard_DuelError,
    yNoBoard_NoRule := PySem.W.exm_ref xb_NoRule xd_NoRule xt_NoRule ys_NoBoard_NoRule,
    wNoBoard_NoRule := kit_own xi_NoRule xt_NoRule ys_NoRule_NoRule ys_NoBoard_NoRule,
    yNoBoard_NoBoard := PySem.W.exm_ref xb_NoBoard xd_NoBoard xt_NoBoard ys_NoBoard_NoBoard,
    wNoBoard_NoBoard := kit_own xi_NoBoard xt_NoBoard ys_NoBoard_NoBoard ys_NoBoard_NoBoard,
    yNoBoard_NoHand := PySem.W.exm_ref xb_NoHand xd_NoHand xt_NoHand ys_NoBoard_NoHand,
    wNoBoard_NoHand := kit_own xi_NoHand xt_NoHand ys_NoHand_NoHand ys_NoBoard_NoHand,
    vNoBoard := kit_typ (by decide +kernel) kv_NoBoard,
    xNoHand := ⟨xe_NoHand, xk_NoHand, xb_NoHand, xt_NoHand, xi_NoHand, ⟨xg_NoHand, xq_NoHand, xb_NoHand, xd_NoHand, xa_NoHand, og, ot, xm_NoHand⟩⟩,
    yNoHand_DuelError := PySem.W.exm_ref xb_DuelError xd_DuelError xt_DuelError ys_NoHand_DuelError,
    wNoHand_DuelError := kit_own xi_DuelError xt_DuelError ys_DuelError_DuelError ys_NoHand_DuelError,
    yNoHand_NoRule := PySem.W.exm_ref xb_NoRule xd_NoRule xt_NoRule ys_NoHand_NoRule,
    wNoHand_NoRule := kit_own xi_NoRule xt_NoRule ys_NoRule_NoRule ys_NoHand_NoRule,
    yNoHand_NoBoard := PySem.W.exm_ref xb_NoBoard xd_NoBoard xt_NoBoard ys_NoHand_NoBoard,
    wNoHand_NoBoard := kit_own xi_NoBoard xt_NoBoard ys_NoBoard_NoBoard ys_NoHand_NoBoard,
    yNoHand_NoHand := PySem.W.exm_ref xb_NoHand xd_NoHand xt_NoHand ys_NoHand_NoHand,
    wNoHand_NoHand := kit_own xi_NoHand xt_NoHand ys_NoHand_NoHand ys_NoHand_NoHand,
    vNoHand := kit_typ (by decide +kernel) kv_NoHand,
    z_all := PySem.W.mg_none_of X G zz_all,
    z_bool := PySem.W.mg_none_of X G zz_bool,
    z_dict := PySem.W.mg_none_of X G zz_dict,
    z_int := PySem.W.mg_none_of X G zz_int,
    z_isinstance := PySem.W.mg_none_of X G zz_isinstance,
    z_len := PySem.W.mg_none_of X G zz_len,
    z_list := PySem.W.mg_none_of X G zz_list,
    z_ord := PySem.W.mg_none_of X G zz_ord,
    z_range := PySem.W.mg_none_of X G zz_range,
    z_set := PySem.W.mg_none_of X G zz_set,
    z_sorted := PySem.W.mg_none_of X G zz_sorted,
    z_str := PySem.W.mg_none_of X G zz_str,
    z_sum := PySem.W.mg_none_of X G zz_sum,
    z_tuple := PySem.W.mg_none_of X G zz_tuple,
    kFIRST := ⟨_, PySem.W.mg_of X G kn_FIRST⟩,
    kLAST := ⟨_, PySem.W.mg_of X G kn_LAST⟩,
    kMOST_SIGNS := ⟨_, PySem.W.mg_of X G kn_MOST_SIGNS⟩,
    kMOST_WEIGHT := ⟨_, PySem.W.mg_of X G kn_MOST_WEIGHT⟩,
    kMOST_SWAPS := ⟨_, PySem.W.mg_of X G kn_MOST_SWAPS⟩,
    kLONGEST_SWAP := ⟨_, PySem.W.mg_of X G kn_LONGEST_SWAP⟩,
    kLONGEST_BOARD := ⟨_, PySem.W.mg_of X G kn_LONGEST_BOARD⟩,
    kHANDS := PySem.W.mg_of X G kn_HANDS,
    lHANDS := ⟨_, _, _, _, kl_HANDS, rfl, .cons ⟨_, rfl⟩ (.cons ⟨_, rfl⟩ (.nil))⟩ }
  exact ⟨A.dlaw, fun s v => .of_eq rfl, fun base _ _ => ok_law T⟩
theorem walk {l : PySem.W.OpenLaw} {q : Program} {loose : List Str} {XP : (Str → Option Value) → Heap → Prop} {YP : World → Heap → Prop} {d : DefRec} {K : Params → PySem.W.Frag} (hn : l.most = some 63) (hdf : d.params.defaults = [])
    (hY : ∀ (w : World) (h : Heap), YP w h → (K w.params).In h) (F : ∀ (w : World) (mg : Str → Option Value) (fa : Addr) (h : Heap), (K w.params).In h → h.Ns mainGlobals mg → mg d.name = some (.ref fa) →
      ∃ fd : FuncData, (∀ (s : Shared) (u : Value), BindsTo s fd ⟨[u], []⟩ [("_law_script", u)]) ∧ ∀ base : Heap, (K w.params).In base → base.Ns mainGlobals mg → FnOk l.prog w (K w.params) mg base CX0 12 fa fd ["_law_script"] (spLaw (K w.params))) :
    PySem.W.WalkO q loose XP YP l.row.toRowW d [] (fun f vs => PySem.call f vs) :=
  L2.walk_of (n := 63) (k := 12) (x := "_law_script") (CX := fun _ => CX0) (sp := fun w => spLaw (K w.params)) hn (by decide) hdf ⟨rfl, by decide, by decide⟩ hY F (fun _ _ a ns hl _ hS => ⟨a, ns, rfl, hS, hl, fun _ => rfl⟩) fun _ _ _ _ _ z => z
end K71
open PySem PySem.W PyProof.Rows
set_option maxRecDepth 100000 in
set_option maxHeartbeats 0 in
theorem PySem.Challenge.cw_duelsum_k71_swaps_holds : PySem.Challenge.rw_duelsum_k71_swaps.Holds := by
  w_on; o_law; k_head; (case hw => w_witness2)
  k_fill
  refine K71.walk (l := PySem.Challenge.rw_duelsum_k71_swaps) rfl rfl (fun w h Y => PySem.W.kIn_of Y) ?F
  case F =>
    intro w mg fa h KX G hmg
    refine' K71.all_mk KX G hmg ?nDuelError ?nNoRule ?nNoBoard ?nNoHand ?nRule ?nSwaps ?nTurned ?ais_number ?lis_number ?ccis_number ?kkis_number ?aRule_moves ?lRule_moves ?ccRule_moves ?kkRule_moves ?iiRule_moves ?aSwaps___init__ ?lSwaps___init__ ?ccSwaps___init__ ?kkSwaps___init__ ?iiSwaps___init__ ?aSwaps_good_signs ?lSwaps_good_signs ?ccSwaps_good_signs ?kkSwaps_good_signs ?iiSwaps_good_signs ?aSwaps_is_row ?lSwaps_is_row ?ccSwaps_is_row ?kkSwaps_is_row ?iiSwaps_is_row ?aSwaps_is_swap ?lSwaps_is_swap ?ccSwaps_is_swap ?kkSwaps_is_swap ?iiSwaps_is_swap ?aSwaps_good_swaps ?lSwaps_good_swaps ?ccSwaps_good_swaps ?kkSwaps_good_swaps ?iiSwaps_good_swaps ?aSwaps_is_board ?lSwaps_is_board ?ccSwaps_is_board ?kkSwaps_is_board ?iiSwaps_is_board ?aSwaps_weight ?lSwaps_weight ?ccSwaps_weight ?kkSwaps_weight ?iiSwaps_weight ?aSwaps_changed ?lSwaps_changed ?ccSwaps_changed ?kkSwaps_changed ?iiSwaps_changed ?aTurned___init__ ?lTurned___init__ ?ccTurned___init__ ?kkTurned___init__ ?iiTurned___init__ ?aTurned_is_board ?lTurned_is_board ?ccTurned_is_board ?kkTurned_is_board ?iiTurned_is_board ?aTurned_changed ?lTurned_changed ?ccTurned_changed ?kkTurned_changed ?iiTurned_changed ?alaw_next ?llaw_next ?cclaw_next ?kklaw_next ?alaw_cell ?llaw_cell ?cclaw_cell ?kklaw_cell ?alaw_state ?llaw_state ?cclaw_state ?kklaw_state ?alaw_signs ?llaw_signs ?cclaw_signs ?kklaw_signs ?alaw_heavy ?llaw_heavy ?cclaw_heavy ?kklaw_heavy ?alaw_row ?llaw_row ?cclaw_row ?kklaw_row ?alaw_swaps ?llaw_swaps ?cclaw_swaps ?kklaw_swaps ?alaw_moves ?llaw_moves ?cclaw_moves ?kklaw_moves ?alaw_told ?llaw_told ?cclaw_told ?kklaw_told ?alaw_board ?llaw_board ?cclaw_board ?kklaw_board ?alaw ?llaw ?cclaw ?kklaw ?pg_Swaps ?hd_Swaps ?po_Swaps ?sa_Swaps ?mk_Swaps ?kc_Swaps ?oc_Swaps ?om_Swaps ?na_Swaps_signs ?na_Swaps_swaps ?fm_Swaps_moves ?ys_Swaps_Rule ?ys_Swaps_Swaps ?ys_Swaps_Turned ?pg_Turned ?hd_Turned ?po_Turned ?sa_Turned ?mk_Turned ?kc_Turned ?oc_Turned ?om_Turned ?na_Turned_inner ?fm_Turned_moves ?ys_Turned_Rule ?ys_Turned_Swaps ?ys_Turned_Turned ?og ?ot ?xi_Rule ?xt_Rule ?sd_Rule ?xi_Swaps ?xt_Swaps ?sd_Swaps ?xi_Turned ?xt_Turned ?sd_Turned ?xk_DuelError ?xb_DuelError ?xt_DuelError ?xi_DuelError ?xg_DuelError ?xq_DuelError ?xd_DuelError ?xa_DuelError ?xm_DuelError ?ys_DuelError_DuelError ?ys_DuelError_NoRule ?ys_DuelError_NoBoard ?ys_DuelError_NoHand ?kv_DuelError ?xe_NoRule ?xk_NoRule ?xb_NoRule ?xt_NoRule ?xi_NoRule ?xg_NoRule ?xq_NoRule ?xd_NoRule ?xa_NoRule ?xm_NoRule ?ys_NoRule_DuelError ?ys_NoRule_NoRule ?ys_NoRule_NoBoard ?ys_NoRule_NoHand ?kv_NoRule ?xe_NoBoard ?xk_NoBoard ?xb_NoBoard ?xt_NoBoard ?xi_NoBoard ?xg_NoBoard ?xq_NoBoard ?xd_NoBoard ?xa_NoBoard ?xm_NoBoard ?ys_NoBoard_DuelError ?ys_NoBoard_NoRule ?ys_NoBoard_NoBoard ?ys_NoBoard_NoHand ?kv_NoBoard ?xe_NoHand ?xk_NoHand ?xb_NoHand ?xt_NoHand ?xi_NoHand ?xg_NoHand ?xq_NoHand ?xd_NoHand ?xa_NoHand ?xm_NoHand ?ys_NoHand_DuelError ?ys_NoHand_NoRule ?ys_NoHand_NoBoard ?ys_NoHand_NoHand ?kv_NoHand ?zz_all ?zz_bool ?zz_dict ?zz_int ?zz_isinstance ?zz_len ?zz_list ?zz_ord ?zz_range ?zz_set ?zz_sorted ?zz_str ?zz_sum ?zz_tuple ?kn_FIRST ?kn_LAST ?kn_MOST_SIGNS ?kn_MOST_WEIGHT ?kn_MOST_SWAPS ?kn_LONGEST_SWAP ?kn_LONGEST_BOARD ?kn_HANDS ?kl_HANDS
    (case nDuelError => k_is)
    (case nNoRule => k_is)
    (case nNoBoard => k_is)
    (case nNoHand => k_is)
    (case nRule => k_is)
    (case nSwaps => k_is)
    (case nTurned => k_is)
    (case ais_number => k_is)
    (case lis_number => k_is)
    (case ccis_number => k_is)
    (case kkis_number => k_is)
    (case aRule_moves => k_is)
    (case lRule_moves => k_is)
    (case ccRule_moves => k_is)
    (case kkRule_moves => k_is)
    (case iiRule_moves => k_is)
    (case aSwaps___init__ => k_is)
    (case lSwaps___init__ => k_is)
    (case ccSwaps___init__ => k_is)
    (case kkSwaps___init__ => k_is)
    (case iiSwaps___init__ => k_is)
    (case aSwaps_good_signs => k_is)
    (case lSwaps_good_signs => k_is)
    (case ccSwaps_good_signs => k_is)
    (case kkSwaps_good_signs => k_is)
    (case iiSwaps_good_signs => k_is)
    (case aSwaps_is_row => k_is)
    (case lSwaps_is_row => k_is)
    (case ccSwaps_is_row => k_is)
    (case kkSwaps_is_row => k_is)
    (case iiSwaps_is_row => k_is)
    (case aSwaps_is_swap => k_is)
    (case lSwaps_is_swap => k_is)
    (case ccSwaps_is_swap => k_is)
    (case kkSwaps_is_swap => k_is)
    (case iiSwaps_is_swap => k_is)
    (case aSwaps_good_swaps => k_is)
    (case lSwaps_good_swaps => k_is)
    (case ccSwaps_good_swaps => k_is)
    (case kkSwaps_good_swaps => k_is)
    (case iiSwaps_good_swaps => k_is)
    (case aSwaps_is_board => k_is)
    (case lSwaps_is_board => k_is)
    (case ccSwaps_is_board => k_is)
    (case kkSwaps_is_board => k_is)
    (case iiSwaps_is_board => k_is)
    (case aSwaps_weight => k_is)
    (case lSwaps_weight => k_is)
    (case ccSwaps_weight => k_is)
    (case kkSwaps_weight => k_is)
    (case iiSwaps_weight => k_is)
    (case aSwaps_changed => k_is)
    (case lSwaps_changed => k_is)
    (case ccSwaps_changed => k_is)
    (case kkSwaps_changed => k_is)
    (case iiSwaps_changed => k_is)
    (case aTurned___init__ => k_is)
    (case lTurned___init__ => k_is)
    (case ccTurned___init__ => k_is)
    (case kkTurned___init__ => k_is)
    (case iiTurned___init__ => k_is)
    (case aTurned_is_board => k_is)
    (case lTurned_is_board => k_is)
    (case ccTurned_is_board => k_is)
    (case kkTurned_is_board => k_is)
    (case iiTurned_is_board => k_is)
    (case aTurned_changed => k_is)
    (case lTurned_changed => k_is)
    (case ccTurned_changed => k_is)
    (case kkTurned_changed => k_is)
    (case iiTurned_changed => k_is)
    (case alaw_next => k_is)
    (case llaw_next => k_is)
    (case cclaw_next => k_is)
    (case kklaw_next => k_is)
    (case alaw_cell => k_is)
    (case llaw_cell => k_is)
    (case cclaw_cell => k_is)
    (case kklaw_cell => k_is)
    (case alaw_state => k_is)
    (case llaw_state => k_is)
    (case cclaw_state => k_is)
    (case kklaw_state => k_is)
    (case alaw_signs => k_is)
    (case llaw_signs => k_is)
    (case cclaw_signs => k_is)
    (case kklaw_signs => k_is)
    (case alaw_heavy => k_is)
    (case llaw_heavy => k_is)
    (case cclaw_heavy => k_is)
    (case kklaw_heavy => k_is)
    (case alaw_row => k_is)
    (case llaw_row => k_is)
    (case cclaw_row => k_is)
    (case kklaw_row => k_is)
    (case alaw_swaps => k_is)
    (case llaw_swaps => k_is)
    (case cclaw_swaps => k_is)
    (case kklaw_swaps => k_is)
    (case alaw_moves => k_is)
    (case llaw_moves => k_is)
    (case cclaw_moves => k_is)
    (case kklaw_moves => k_is)
    (case alaw_told => k_is)
    (case llaw_told => k_is)
    (case cclaw_told => k_is)
    (case kklaw_told => k_is)
    (case alaw_board => k_is)
    (case llaw_board => k_is)
    (case cclaw_board => k_is)
    (case kklaw_board => k_is)
    (case alaw => k_is)
    (case llaw => k_is)
    (case cclaw => k_is)
    (case kklaw => k_is)
    (case pg_Swaps => k_is)
    (case hd_Swaps => k_is)
    (case po_Swaps => k_is)
    (case sa_Swaps => k_is)
    (case mk_Swaps => k_is)
    (case kc_Swaps => k_is)
    (case oc_Swaps => k_is)
    (case om_Swaps => k_is)
    (case na_Swaps_signs => k_is)
    (case na_Swaps_swaps => k_is)
    (case fm_Swaps_moves => k_is)
    (case ys_Swaps_Rule => first | rfl | k_is)
    (case ys_Swaps_Swaps => first | rfl | k_is)
    (case ys_Swaps_Turned => first | rfl | k_is)
    (case pg_Turned => k_is)
    (case hd_Turned => k_is)
    (case po_Turned => k_is)
    (case sa_Turned => k_is)
    (case mk_Turned => k_is)
    (case kc_Turned => k_is)
    (case oc_Turned => k_is)
    (case om_Turned => k_is)
    (case na_Turned_inner => k_is)
    (case fm_Turned_moves => k_is)
    (case ys_Turned_Rule => first | rfl | k_is)
    (case ys_Turned_Swaps => first | rfl | k_is)
    (case ys_Turned_Turned => first | rfl | k_is)
    (case og => k_is)
    (case ot => k_is)
    (case xi_Rule => k_is)
    (case xt_Rule => k_is)
    (case sd_Rule => first | rfl | k_is)
    (case xi_Swaps => k_is)
    (case xt_Swaps => k_is)
    (case sd_Swaps => first | rfl | k_is)
    (case xi_Turned => k_is)
    (case xt_Turned => k_is)
    (case sd_Turned => first | rfl | k_is)
    (case xk_DuelError => k_is)
    (case xb_DuelError => k_is)
    (case xt_DuelError => k_is)
    (case xi_DuelError => k_is)
    (case xg_DuelError => k_is)
    (case xq_DuelError => k_is)
    (case xd_DuelError => k_is)
    (case xa_DuelError => k_is)
    (case xm_DuelError => k_is)
    (case ys_DuelError_DuelError => first | rfl | k_is)
    (case ys_DuelError_NoRule => first | rfl | k_is)
    (case ys_DuelError_NoBoard => first | rfl | k_is)
    (case ys_DuelError_NoHand => first | rfl | k_is)
    (case kv_DuelError => k_is)
    (case xe_NoRule => k_exc)
    (case xk_NoRule => k_is)
    (case xb_NoRule => k_is)
    (case xt_NoRule => k_is)
    (case xi_NoRule => k_is)
    (case xg_NoRule => k_is)
    (case xq_NoRule => k_is)
    (case xd_NoRule => k_is)
    (case xa_NoRule => k_is)
    (case xm_NoRule => k_is)
    (case ys_NoRule_DuelError => first | rfl | k_is)
    (case ys_NoRule_NoRule => first | rfl | k_is)
    (case ys_NoRule_NoBoard => first | rfl | k_is)
    (case ys_NoRule_NoHand => first | rfl | k_is)
    (case kv_NoRule => k_is)
    (case xe_NoBoard => k_exc)
    (case xk_NoBoard => k_is)
    (case xb_NoBoard => k_is)
    (case xt_NoBoard => k_is)
    (case xi_NoBoard => k_is)
    (case xg_NoBoard => k_is)
    (case xq_NoBoard => k_is)
    (case xd_NoBoard => k_is)
    (case xa_NoBoard => k_is)
    (case xm_NoBoard => k_is)
    (case ys_NoBoard_DuelError => first | rfl | k_is)
    (case ys_NoBoard_NoRule => first | rfl | k_is)
    (case ys_NoBoard_NoBoard => first | rfl | k_is)
    (case ys_NoBoard_NoHand => first | rfl | k_is)
    (case kv_NoBoard => k_is)
    (case xe_NoHand => k_exc)
    (case xk_NoHand => k_is)
    (case xb_NoHand => k_is)
    (case xt_NoHand => k_is)
    (case xi_NoHand => k_is)
    (case xg_NoHand => k_is)
    (case xq_NoHand => k_is)
    (case xd_NoHand => k_is)
    (case xa_NoHand => k_is)
    (case xm_NoHand => k_is)
    (case ys_NoHand_DuelError => first | rfl | k_is)
    (case ys_NoHand_NoRule => first | rfl | k_is)
    (case ys_NoHand_NoBoard => first | rfl | k_is)
    (case ys_NoHand_NoHand => first | rfl | k_is)
    (case kv_NoHand => k_is)
    (case zz_all => k_is)
    (case zz_bool => k_is)
    (case zz_dict => k_is)
    (case zz_int => k_is)
    (case zz_isinstance => k_is)
    (case zz_len => k_is)
    (case zz_list => k_is)
    (case zz_ord => k_is)
    (case zz_range => k_is)
    (case zz_set => k_is)
    (case zz_sorted => k_is)
    (case zz_str => k_is)
    (case zz_sum => k_is)
    (case zz_tuple => k_is)
    (case kn_FIRST => k_is)
    (case kn_LAST => k_is)
    (case kn_MOST_SIGNS => k_is)
    (case kn_MOST_WEIGHT => k_is)
    (case kn_MOST_SWAPS => k_is)
    (case kn_LONGEST_SWAP => k_is)
    (case kn_LONGEST_BOARD => k_is)
    (case kn_HANDS => k_is)
    (case kl_HANDS => k_is)
