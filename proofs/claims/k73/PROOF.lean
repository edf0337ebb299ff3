import PyProof.Rows.All
import Wide.All
import OpenK.AllK
import Wide.FinOn
import HandS.Base
import HandS.Call
import HandS.Exc
import HandS.ExcIs
import PyProof.EqAt
import PyProof.EqKinds
import PyProof.TupleCall
import HandS.ForMost
import HandS.ForExc
import HandS.ForDict
import HandS.IsInst
import HandS.Style
import HandS.Wide
import HandS.WideMore
import HandS.Conv
import HandS.Flow
import HandS.Set
import HandS.SetFor
import HandS.SetKeys
import HandS.StrMore
import HandS.More
import HandS.Steps
import HandS.Evl
import HandS.TupAny
import HandS.Codes
import HandS.Replace
import PySem.Challenge.RW_duelsum_k73_takings
set_option Elab.async false
set_option maxRecDepth 100000
set_option maxHeartbeats 4000000
/-! an exception that is caught and kept under a name behind the suite -/
namespace L2
open PySem PySem.Spec PyProof.Rows
/-- an exception object that was caught, of the class cls, without a dict of its own -/
def ExH (cls : Value) (a : Addr) : HO := .ext fun h => ∃ (oe : Obj) (vs : Array Value), h.get? a = some oe ∧ Zc cls none oe ∧ oe.data = .fields vs
theorem exH_ok {P : Program} {w : World} {H : Hp} {h : Heap} {a : Addr} {cls : Value} {oe : Obj} {vs : Array Value} (e : h.get? a = some oe) (z : Zc cls none oe) (d : oe.data = .fields vs) : ObjOk P w H h a (ExH cls a) :=
  ⟨⟨oe, vs, e, z, d⟩, ⟨oe, e⟩, fun _ _ ⟨o, v, q, r⟩ k => ⟨o, v, k o q, r⟩⟩
section
variable {X : Cx} {pins : List (Addr × Obj)} {σ : St} {H : Hp} {s : Shared}
/-- a pinned record of ours is tracked from now on -/
theorem Inv.track {a : Addr} {oe : Obj} {vs : Array Value} {o : HO} (I : Inv X ((a, oe) :: pins) σ H s) (n0 : X.s_0.heap.get? a = none) (hp : ∀ p ∈ X.pn ++ pins, p.1 ≠ a) (hd : oe.data = .fields vs)
    (new : ObjOk X.prog X.w (upd H a o) s.heap a o) : Inv X pins σ (upd H a o) s := by
  obtain ⟨ea, na, nL, nF, _⟩ := I.pin (a, oe) (List.mem_append_right _ List.mem_cons_self)
  refine ⟨I.ok, I.os, I.bare, ⟨I.base.keep, I.base.slot, fun b u e n hx => ?_, I.base.there, fun b xs e => ?_, fun b u v e => ?_, fun b ps e => ?_⟩, I.loc, I.cell, ?_, fun x c e => ?_, fun p hpm => ?_, fun b u e => ?_, I.len⟩
  · rw [upd_ne (fun z => by rw [z, n0] at e; cases e)]
    exact I.base.free b u e n hx
  · have q := I.base.tups b xs e
    rw [upd_ne (ne_of_none q na)]
    exact q
  · have q := I.base.frzs b u v e
    rw [upd_ne (ne_of_none q na)]
    exact q
  · obtain ⟨m, q⟩ := I.base.tbls b ps e
    exact ⟨m, by rw [upd_ne (ne_of_none q na)]; exact q⟩
  · rw [upd_ne (Ne.symm nL)]
    exact I.free
  · obtain ⟨v, oc, hoc, hcd⟩ := I.cell x c e
    have nc : c ≠ a := fun z => by
      rw [z, ea] at hoc
      cases hoc
      rw [hd] at hcd
      cases hcd
    rw [upd_ne nc]
    exact I.freeC x c e
  · obtain ⟨e, n, ne, nf, d⟩ := I.pin p (by
      rcases List.mem_append.mp hpm with z | z
      · exact List.mem_append_left _ z
      · exact List.mem_append_right _ (List.mem_cons_of_mem _ z))
    exact ⟨e, by rw [upd_ne (hp p hpm)]; exact n, ne, nf, d⟩
  · by_cases hb : b = a
    · subst hb
      rw [upd_same] at e
      cases e
      exact new
    · rw [upd_ne hb] at e
      exact (I.hok b u e).stay (fun c v _ q => q) (fun c q => by rw [upd_ne (ne_of_none q na)]; exact q) fun c xs q => by rw [upd_ne (ne_of_none q na)]; exact q
end
/-- what 'except x as n: v = n' wishes: v's slot j holds the exception from then on, tracked; n's slot i is empty -/
def wKeep (K : PySem.W.Frag) (c : Value) (i j : Nat) (Wout : WX) (D : Ends) : WX := fun cls d σ H =>
  ∃ b, PySem.W.exmOne K cls c = some b ∧ (b = true → d = none ∧ ∀ a, H a = none → D.nx (((σ.set i (some (.ref a))).set j (some (.ref a))).set i none) (upd H a (ExH cls a))) ∧ (b = false → Wout cls d σ H)
section
variable {X : Cx} {x n v : Str} {c : Value} {i j : Nat} {body : List Stmt} {np p1 p2 p3 pos pos' : Pos} {tb : WX → TS} {Wout : WX}
theorem ps_try_keep (hs : X.stack = X.env :: X.outer) (hf : X.env.frame = some X.env.locals) (hN : X.N.Nodup) (hi : X.N[i]? = some n) (hln : X.env.kindOf n = some .local) (hj : X.N[j]? = some v) (hlv : X.env.kindOf v = some .local) (hex : X.ex = [])
    (hc : Names X x c) (tk : Takes X Wout) (hij : i < X.N.length)
    (hb : ∀ (W : WX) (pn : List (Addr × Obj)) (xe : Value → Shared → Prop), Takes (X.tr pn xe) W → PassesOwn (model X.prog X.w) X.A X.env xe → PSs (X.tr pn xe) body (tb W))
    (hdn : (n == ("__debug__" : Str)) = false := by decide) (hdc : (n == ("__classdict__" : Str)) = false := by decide) :
    PS X (.Try body [.ExceptHandler (some (.Name x np)) (some n) [.Assign [.Name v p1] (.Name n p2) p3] pos'] [] [] pos) (fun D σ H => tb (wKeep X.K c i j Wout D) D σ H) := by
  refine ⟨fun pins s σ H D I h => ?_⟩
  have ok := I.ok
  have hfr : X.A.frames = some (X.env :: X.outer) := by rw [ok.frames, hs]
  have hloc : Loc X.env.scope n := .inl hln
  have hlocv : Loc X.env.scope v := .inl hlv
  refine wpAny_Try_except ?_
  refine wpAny_mono ((hb (wKeep X.K c i j Wout D) (X.pn ++ pins) (fun e s₁ => wpAny (model X.prog X.w) X.A (noteFrame e X.env) (fun _ s₂ => wpAny (model X.prog X.w) X.A (setFlight e none) (fun _ s₃ =>
    wpAny (model X.prog X.w) X.A (handleBy e X.env [.ExceptHandler (some (.Name x np)) (some n) [.Assign [.Name v p1] (.Name n p2) p3] pos']) (SP X pins D) X.xe s₃) X.xe s₂) X.xe s₁) (fun u s' xx => ?_) PassesOwn.looking).run [] s σ H D (I.toTry _) h) (fun f s1 hsp => ?_) (fun e s1 he => he)
  · -- the catch
    obtain ⟨a, B, sI, pins', σ', H', cls, d, rfl, J', nb, up, sky, na, os, ag, b, hb1, hyes, hno⟩ := xx
    have J : Inv X pins σ' H' sI := J'.ofTry ok
    have sky' : Sky B (X.env :: X.outer) a (Zc cls d) X.env.locals s'.heap := by rw [← hs]; exact sky
    show wpAny (model X.prog X.w) X.A (noteFrame (.ref a) X.env) _ _ _
    refine Sky.land Zc.steady hfr hf sky' fun h3 fl3 up3 => ?_
    have J3 : Inv X pins σ' H' { s' with heap := h3 } := J.landed nb fl3.1 (up.trans up3) os ag
    obtain ⟨oe3, vs3, he3, hz3, hd3⟩ := fl3.there
    have notFr : ∀ {h : Heap} {o : Obj} {vs : Array Value}, h.FunFrames B (X.env :: X.outer) → h.get? a = some o → o.data = .fields vs → a ∉ frs (X.env :: X.outer) := fun {h o vs} ff e dd hm => by
      obtain ⟨_, o', e', hnf⟩ := ff.mem hm
      rw [e] at e'; cases e'
      exact hnf _ dd
    have nfr := notFr fl3.2.2.1 he3 hd3
    have nL : a ≠ X.env.locals := fun z => nfr (List.mem_filterMap.mpr ⟨X.env, List.mem_cons_self, by rw [hf, z]⟩)
    have nF : a ∉ X.fs := fun hm => by
      obtain ⟨e, he, q⟩ := List.mem_filterMap.mp hm
      exact nfr (List.mem_filterMap.mpr ⟨e, List.mem_cons_of_mem _ he, q⟩)
    have nB : B.get? a = none := fl3.2.1
    have nI : sI.heap.get? a = none := by
      cases e : sI.heap.get? a with
      | none => rfl
      | some o =>
        have z := nb a o e (by rw [hs]; exact nfr)
        rw [nB] at z
        cases z
    have n0 : X.s_0.heap.get? a = none := by
      cases e : X.s_0.heap.get? a with
      | none => rfl
      | some o =>
        obtain ⟨o', z⟩ := J.base.there a o e (by rw [hex]; exact fun q => nomatch q)
        rw [nI] at z
        cases z
    have np' : ∀ p ∈ X.pn ++ pins, p.1 ≠ a := fun p hp z => by
      have q := (J.pin p hp).1
      rw [z, nI] at q
      cases q
    have S3 := J3.suite he3 hd3 na nL nF
    refine wpAny_handleBy_cons (codeAny_handlers_test ?_) (by intro q; cases q)
    have LT : PySem.W.Looks (model X.prog X.w) h3 (typeOf (.ref a)) cls := fun A Q E s k q => wpAny_typeOf_ref (k _ _ he3) (by rw [hz3.1]; exact q)
    have LM := PySem.W.exm_one (M := model X.prog X.w) (J3.kIn) LT hb1
    have test : ∀ {Q : Value → Shared → Prop} {E : Value → Shared → Prop}, Q c { s' with heap := h3 } → wpAny (model X.prog X.w) (X.A.mark (some (.ref a))) (eval (.Name x np) X.env) Q E { s' with heap := h3 } := fun {Q E} q => by
      obtain ⟨hg, hdbg, hm | ⟨hm, hv, hnn⟩⟩ := hc
      · exact ld_glob (X := X.suite a ((a, oe3) :: (X.pn ++ pins))) S3 hg hm q hdbg
      · exact ld_blt (X := X.suite a ((a, oe3) :: (X.pn ++ pins))) S3 hg hm hv q hnn hdbg
    refine test (LM.here ?_)
    cases b with
    | true =>
      refine codeAny_handlers_suite_as ?_
      refine HandSPX.lands_againZ fl3 fun h4 fl4 up4 => ?_
      have J4 : Inv X pins σ' H' { s' with heap := h4 } := J.landed nb fl4.1 ((up.trans up3).trans up4) os ag
      obtain ⟨oe4, vs4, he4, hz4, hd4⟩ := fl4.there
      obtain ⟨rfl, hnx⟩ := hyes rfl
      have S4 := J4.suite he4 hd4 na nL nF
      refine store_ok (X := X.suite a ((a, oe4) :: (X.pn ++ pins))) (v := .ref a) S4 hN hi hloc rfl (fun s5 S5 => ?_) (.inr hln)
      -- v = n
      have hlen : i < σ'.length := by rw [J.len]; exact hij
      have BD : PSs (X.suite a ((a, oe4) :: (X.pn ++ pins))) [.Assign [.Name v p1] (.Name n p2) p3] _ := pss_one (ps_asg (pe_var (i := i) hi (.inl hln) hdn hdc) (pg_name (i := j) hN hj (.inl hlv) (.inr hlv)))
      refine wpAny_mono (BD.run [] s5 _ H' { nx := fun σ6 H6 => σ6 = (σ'.set i (some (.ref a))).set j (some (.ref a)) ∧ H6 = H', rt := fun _ _ => False } S5 ⟨_, List.getElem?_set_self hlen, rfl, rfl⟩) (fun f s6 hsp => ?_) (fun _ _ z => False.elim z)
      cases f with
      | next =>
        obtain ⟨σ6, H6, S6, e1, e2⟩ := hsp
        subst e1 e2
        have T6 : Inv X ((a, oe4) :: pins) ((σ'.set i (some (.ref a))).set j (some (.ref a))) H6 s6 := ⟨ok, S6.os, S6.bare, S6.base, S6.loc, S6.cell, S6.free, S6.freeC, fun p hp => S6.pin p (by
          refine List.mem_append_left _ ?_
          rcases List.mem_append.mp hp with z | z
          · exact List.mem_cons_of_mem _ (List.mem_append_left _ z)
          · rcases List.mem_cons.mp z with z | z
            · rw [z]; exact List.mem_cons_self
            · exact List.mem_cons_of_mem _ (List.mem_append_right _ z)), S6.hok, S6.len⟩
        refine gone_ok T6 hN hi hln fun s7 J7 => ?_
        have ha7 := (J7.pin (a, oe4) (List.mem_append_right _ List.mem_cons_self)).1
        exact ⟨_, _, J7.track n0 np' hd4 (exH_ok ha7 hz4 hd4), hnx a na⟩
      | brk => obtain ⟨_, _, _, q6⟩ := hsp; exact q6.elim
      | cont => obtain ⟨_, _, _, q6⟩ := hsp; exact q6.elim
      | ret u => obtain ⟨_, _, _, _, _, q6⟩ := hsp; exact q6.elim
    | false =>
      show wpAny _ X.A (handleBy (.ref a) X.env []) _ _ _
      refine wpAny_handleBy_nil ?_
      obtain ⟨k1, k2, k3, oe, vs, T, oT, ts', he, hz, hd, h1, hr⟩ := id fl3
      unfold PySem.passOn
      refine wpAny_bind (wpAny_field he hd h1 ?_)
      rw [if_neg (show ¬ ((Value.ref T == Value.none) = true) from by simp)]
      have fin : wpAny (model X.prog X.w) X.A (setFlight (.ref a) X.env.frame) (fun _ s4 => wpAny (model X.prog X.w) X.A (throw (.ref a) : Sem Flow) (SP X pins D) X.xe s4) X.xe { s' with heap := h3 } := by
        rw [hf]
        refine HandSPX.setFlight_upZ fl3 fun h4 hh4 up4 => wpAny_throw (tk _ _ ?_)
        exact ⟨a, B, sI, pins, σ', H', cls, d, rfl, J, nb, (up.trans up3).trans up4, .inr (.inr (by rw [hs]; exact hh4)), na, os, ag, hno rfl⟩
      first
        | exact wpAny_bind (wpAny_pure (wpAny_bind fin))
        | exact wpAny_bind fin
  · cases f with
    | next =>
      obtain ⟨σ', H', J', q⟩ := hsp
      exact wpAny_execs_nil ⟨σ', H', J'.ofTry ok, q⟩
    | brk =>
      obtain ⟨σ', H', J', q⟩ := hsp
      exact ⟨σ', H', J'.ofTry ok, q⟩
    | cont =>
      obtain ⟨σ', H', J', q⟩ := hsp
      exact ⟨σ', H', J'.ofTry ok, q⟩
    | ret u =>
      obtain ⟨v, σ', H', J', r, q⟩ := hsp
      exact ⟨v, σ', H', J'.ofTry ok, r, q⟩
end
/-- isinstance(v, c), v an exception that was kept -/
def rIsH (K : PySem.W.Frag) : List V → Hp → VK → Prop := fun xs H Q => ∃ (a D : Addr) (c : V) (cv : Value) (b : Bool), xs = [.ref a, c] ∧ H a = some (ExH (.ref D) a) ∧ ExcC K D ∧ (∀ u, RelV c u → u = cv) ∧ PySem.W.kitOne K (.ref D) cv = some b ∧ Q (.bl b) H
theorem call_isH {X : Cx} : CallR X (.builtin "isinstance") (rIsH X.K) := by
  intro pins s σ H xs us Q I r h
  obtain ⟨a, D, c, cv, b, rfl, ha, C, hcv, e, q⟩ := h
  cases r with
  | cons rx rr =>
    cases rr with
    | cons rt rr =>
      cases rr
      cases rx
      have ec := hcv _ rt
      subst ec
      obtain ⟨⟨oe, vs, hget, hz, hv⟩, _, _⟩ := I.hok a _ ha
      have J : PySem.W.InstAt s.heap a oe D none := by
        obtain ⟨oc, od, oda, osl⟩ := oe
        obtain ⟨h1, h2⟩ := hz
        dsimp only at h1 h2 hv
        subst h1 h2 hv
        exact ⟨hget, rfl, rfl, trivial⟩
      exact PySem.W.kia_one (PySem.W.handS_kitx_exc C.hg C.hk C.hs C.hd C.ha C.hn C.ht C.hm) I.kIn J e (fun z => nomatch z) fun tk => ⟨.bl b, H, I.kept (t' := tk) fun _ _ z => z, rfl, q⟩
end L2
/-! words of our own, shared by all claims -/
namespace L2
open PySem PySem.Spec PyProof.Rows
/-- what isinstance asks of an own class's instances -/
structure ClsO (K : PySem.W.Frag) (C : Addr) : Prop where
  a : PySem.W.findIn K (.ref C) "__class__" = some (some (.builtin "object.__class__"))
  g : PySem.W.specialIn K (.builtin "object.__class__") "__get__" = some (some (.builtin "getset_descriptor.__get__"))
  t : PySem.W.takesIn K (.builtin "object.__class__") = some true
  m : PySem.W.mroIn K C (.type "object") = some true
/-- what is known of an own exception class without an own __init__ -/
structure ExcF (K : PySem.W.Frag) (C : Addr) : Prop where
  e : PySem.W.excIn K C [.type "ValueError", .type "Exception", .type "BaseException", .type "object"] "ValueError.__new__" = true
  k : PySem.W.keepIn K (.ref C) = true
  b : PySem.W.subIn K (.ref C) (.type "BaseException") = some true
  t : PySem.W.typeIn K (.ref C) = some (.type "type")
  i : PySem.W.isClsIn K C = true
  c : ExcC K C
section
variable {X : Cx} {x m : Str} {j : Nat} {p p2 pos : Pos} {C : Addr}
/-- X('m'), by the facts of the class -/
theorem pmk_F (F : ExcF X.K C) (gC : X.mg x = some (.ref C)) (hg : Gl X x := by rfl) (hdb : (x == ("__debug__" : Str)) = false := by decide) :
    PMk X (.Call (.Name x p) [.Constant (.str m) j p2] [] pos) (fun _ H Q => Q (.ref C) none H) :=
  pmk_own PySem.F.excBase_ValueError F.e gC F.k (raises_own F.b F.t) hg hdb
theorem pe_gI {n : Int} (h : ∃ t, X.mg x = some (.int n t)) (hg : Gl X x := by rfl) (hd : (x == ("__debug__" : Str)) = false := by decide) : PE X (.Name x pos) (tC (.int n)) := pe_glob hg h.choose_spec ⟨_, rfl⟩ hd
theorem pe_gS {n : Str} (h : ∃ t, X.mg x = some (.str n t)) (hg : Gl X x := by rfl) (hd : (x == ("__debug__" : Str)) = false := by decide) : PE X (.Name x pos) (tC (.str n)) := pe_glob hg h.choose_spec ⟨_, rfl⟩ hd
theorem pe_gR {a : Addr} (h : X.mg x = some (.ref a)) (hg : Gl X x := by rfl) (hd : (x == ("__debug__" : Str)) = false := by decide) : PE X (.Name x pos) (tC (.ref a)) := pe_glob hg h rfl hd
theorem pe_gT {n : String} (hm : X.mg x = none) (hv : bootBuiltins x = some (.type n) := by decide +kernel) (hg : Gl X x := by rfl) (hn : x ≠ "__name__" := by decide) (hd : (x == ("__debug__" : Str)) = false := by decide) : PE X (.Name x pos) (tC (.ty n)) := pe_bltn hg hm hv rfl hn hd
/-- a written tuple -/
theorem sqT_K {K : PySem.W.Frag} {H : Hp} {a : Addr} {n : Nat} {vs : List V} (h : ∃ dd m sl its, K.lookup a = some ⟨.type "tuple", dd, .seq its m, sl⟩ ∧ its.size = n ∧ Vals vs its.toList) (hn : n ≤ 1000 := by decide) : SqT K H a vs := by
  obtain ⟨dd, m, sl, its, e, hs, r⟩ := h
  exact .inr ⟨_, its, m, e, rfl, rfl, (by rw [hs]; exact Nat.le_trans hn (by decide)), r⟩
end
/-! ### a method's call, what it raises wished for at the caller's slots -/
section
variable {X : Cx} {CX : CXT} {k : Nat} {f C : Addr} {fd : FuncData} {ps : List Str} {sp : Sp} {E : St → XK} {m : Str} {pos apos : Pos} {e o : Expr} {es : List Expr} {ta : TE} {t : TA}
def tMethW (C : Addr) (m : Str) (sp : Sp) (E : St → XK) (ta : TE) (t : TA) : TE := fun σ H Q => ta σ H fun x H1 => ∃ a dx fs, x = .ref a ∧ H1 a = some (.ins C dx fs) ∧ fs.lookup m = none ∧ t σ H1 fun vs H2 => sp (x :: vs) H2 Q (E σ)
theorem pe_methW {pl : Sem Bool} (he : PE X o ta) (c : Cls X.K C) (hm : Meth X.K C m f) (F : FnOk X.prog X.w X.K X.mg X.base CX k f fd ps sp) (hr : Room k X.A) (hb : Binds X.K fd ps []) (hx : ∀ σ, PassesAt CX X σ (E σ)) (ha : PA X (e :: es) t)
    (hst : starEach (e :: es) X.env = (false, eval e X.env) :: starEach es X.env := by rfl) (hpl : (backTo pos (starEach es X.env)).any (·.1) = false := by rfl)
    (ht : eval (.Call (.Attribute o m apos) (e :: es) [] pos) X.env = (do
      let ov ← eval o X.env
      standAt apos.atName
      let (f, first) ← holding [ov] (getMethod ov m pl)
      callWith pos f first (backTo pos (starEach (e :: es) X.env)) (backToKw pos (keywordEach [] X.env))) := by rfl) :
    PE X (.Call (.Attribute o m apos) (e :: es) [] pos) (tMethW C m sp E ta t) :=
  ⟨fun pins s σ H Q I h => PySem.W.methodCall_KW (pl := pl) (thn (he.run pins s σ H _ I h) fun u s1 ⟨x, H1, I1, rx, a, dx, fs, ex, ea, l, q⟩ => by
    subst ex; cases rx
    exact getmeth_ok I1 ea c hm l (PySem.W.callWith_K (first := [.ref a]) (h₀ := X.base) I.ok.mod.kin hm.kp (thn (ha.run pos pins s1 σ H1 _ I1 q) fun us s2 ⟨vs, H2, I2, r, q2⟩ =>
      ⟨I2.kIn, run_fnS (us := .ref a :: us) (vs := .ref a :: vs) F hr hb (hx σ) I2 (.cons rfl r) q2⟩) hst hpl)) ht⟩
end
end L2
namespace L2
open PySem PySem.Spec PyProof.Rows
theorem kit_own {K : PySem.W.Frag} {t : Value} {C : Addr} {b : Bool} (i : PySem.W.isClsIn K C = true) (ty : PySem.W.typeIn K (.ref C) = some (.type "type")) (hs : PySem.W.subIn K (.ref C) (.ref C) = some true) (h : PySem.W.subIn K t (.ref C) = some b) :
    PySem.W.kitOne K t (.ref C) = some b := by
  unfold PySem.W.kitOne
  by_cases e : (t == Value.ref C) = true
  · rw [if_pos e]
    have e' : t = .ref C := beq_iff_eq.mp e
    rw [e', hs] at h
    exact h
  · rw [if_neg e]
    have i' : (PySem.W.clsIn K C).isSome = true := i
    show (if ((PySem.W.clsIn K C).isSome && PySem.W.typeIn K (.ref C) == some (.type "type")) = true then PySem.W.subIn K t (.ref C) else none) = some b
    rw [i', ty]
    exact h
theorem kit_typ {K : PySem.W.Frag} {D : Addr} {n : String} {b : Bool} (m : PySem.W.kitMeta n = true) (h : PySem.W.subIn K (.ref D) (.type n) = some b) : PySem.W.kitOne K (.ref D) (.type n) = some b := by
  unfold PySem.W.kitOne
  rw [if_neg (by intro z; exact absurd (beq_iff_eq.mp z) (by intro q; cases q))]
  show (if PySem.W.kitMeta n = true then PySem.W.subIn K (.ref D) (.type n) else none) = some b
  rw [if_pos m]
  exact h
theorem not_has {l : List Value} {C : Addr} (h : l.all (fun v => match v with | .type _ => true | _ => false) = true) : l.contains (Value.ref C) = false := by
  induction l with
  | nil => rfl
  | cons v r ih =>
    rw [List.all_cons, Bool.and_eq_true] at h
    rw [List.contains_cons, ih h.2, Bool.or_false]
    cases v <;> first | rfl | exact absurd h.1 Bool.false_ne_true
theorem sub_bt {K : PySem.W.Frag} {n : String} {C : Addr} (h : (PySem.fastBuiltinMro n).any (fun l => l.all (fun v => match v with | .type _ => true | _ => false)) = true) : PySem.W.subIn K (.type n) (.ref C) = some false := by
  show (PySem.fastBuiltinMro n).map (·.contains (Value.ref C)) = some false
  cases e : PySem.fastBuiltinMro n with
  | none => rw [e] at h; cases h
  | some l =>
    rw [e] at h
    have z := not_has (C := C) (show l.all _ = true from h)
    show some (l.contains (Value.ref C)) = some false
    rw [z]
example (K : PySem.W.Frag) (C : Addr) : PySem.W.subIn K (.type "int") (.ref C) = some false := sub_bt (by decide +kernel)
example (K : PySem.W.Frag) (C : Addr) : PySem.W.subIn K (.type "tuple") (.ref C) = some false := sub_bt (by decide +kernel)
end L2
/-! sets of ints or texts, made of a list, put in order -/
namespace SG
open PySem PySem.Spec PyProof.Rows L2
section
variable (P : Program) (w : World)
/-- an entry of a set's table that is the key k -/
def Ent (e : Int × Value) (k : Key) : Prop := e.1 = (mixKind P w).hash k ∧ (mixKind P w).is k e.2 = true
/-- what a table must keep so that its members can be walked -/
def Sound (t : SetTable) : Prop := Ris t.place.toList ∧ (w.params.followText "set-order" = true ∨ t.led = true)
/-- the set at a has just the members ks -/
def SetG (h : Heap) (a : Addr) (ks : List Key) : Prop :=
  ∃ o es ep t, h.get? a = some o ∧ o.ExactSet ∧ o.data = .set es ep t ∧ Paired (Ent P w) es.toList ks ∧ ks.Nodup ∧ es.size < scanBound ∧ t.fits es.size = true ∧ Sound w t
end
section
variable {P : Program} {w : World}
theorem pr_perm {α β : Type} {R : α → β → Prop} {l l' : List α} (p : l.Perm l') : ∀ {m : List β}, Paired R l m → ∃ m', m.Perm m' ∧ Paired R l' m' := by
  induction p with
  | nil => intro m h; cases h; exact ⟨[], .nil, .nil⟩
  | cons x _ ih =>
    intro m h
    cases h with
    | cons r t =>
      obtain ⟨m', q, u⟩ := ih t
      exact ⟨_ :: m', q.cons _, .cons r u⟩
  | swap x y l =>
    intro m h
    cases h with
    | cons r t =>
      cases t with
      | cons r' t' => exact ⟨_, .swap _ _ _, .cons r' (.cons r t')⟩
  | trans _ _ i1 i2 =>
    intro m h
    obtain ⟨m1, q1, u1⟩ := i1 h
    obtain ⟨m2, q2, u2⟩ := i2 u1
    exact ⟨m2, q1.trans q2, u2⟩
theorem pr_left {α β : Type} {R : α → β → Prop} : ∀ {l : List α} {m : List β}, Paired R l m → ∀ x ∈ l, ∃ y ∈ m, R x y
  | _, _, .cons r t, x, h => by
    rcases List.mem_cons.mp h with z | z
    · exact ⟨_, List.mem_cons_self, z ▸ r⟩
    · obtain ⟨y, hy, q⟩ := pr_left t x z
      exact ⟨y, List.mem_cons_of_mem _ hy, q⟩
theorem pr_right {α β : Type} {R : α → β → Prop} : ∀ {l : List α} {m : List β}, Paired R l m → ∀ y ∈ m, ∃ x ∈ l, R x y
  | _, _, .cons r t, y, h => by
    rcases List.mem_cons.mp h with z | z
    · exact ⟨_, List.mem_cons_self, z ▸ r⟩
    · obtain ⟨x, hx, q⟩ := pr_right t y z
      exact ⟨x, List.mem_cons_of_mem _ hx, q⟩
theorem pr_snoc {α β : Type} {R : α → β → Prop} {a : α} {b : β} : ∀ {l : List α} {m : List β}, Paired R l m → R a b → Paired R (l ++ [a]) (m ++ [b])
  | _, _, .nil, r => .cons r .nil
  | _, _, .cons r' t, r => .cons r' (pr_snoc t r)
theorem scan_of {k : Key} {v : Value} (h : (mixKind P w).is k v = true) : v.scannable = true := by
  rcases keyIs_shape h with ⟨i, t, _, e⟩ | ⟨x, t, _, e⟩ <;> (rw [e]; rfl)
theorem ents_elems {l : List (Int × Value)} {ks : List Key} (h : Paired (Ent P w) l ks) : ElemsOf (mixKind P w) l := fun e he => by
  obtain ⟨k, _, h1, h2⟩ := pr_left h e he
  exact ⟨⟨k, h2, h1⟩, scan_of h2⟩
theorem SetG.ob {h : Heap} {a : Addr} {ks : List Key} (R : SetG P w h a ks) : ∃ o, h.get? a = some o := by obtain ⟨o, _, _, _, e, _⟩ := R; exact ⟨o, e⟩
theorem SetG.at {h h' : Heap} {a : Addr} {ks : List Key} (R : SetG P w h a ks) (k : ∀ o, h.get? a = some o → h'.get? a = some o) : SetG P w h' a ks := by
  obtain ⟨o, es, ep, t, e, r⟩ := R
  exact ⟨o, es, ep, t, k o e, r⟩
theorem fresh_sound (w : World) : Sound w (.fresh 0 0 (!w.params.followText "set-order")) := by
  refine ⟨List.Pairwise.nil, ?_⟩
  cases e : w.params.followText "set-order"
  · exact .inr rfl
  · exact .inl rfl
variable {A : Around} {E : Value → Shared → Prop} {s : Shared} {a : Addr} {ks : List Key}
/-- the table written back, laid anew where it has grown too full -/
theorem put_back {g : Bool → Sem Unit} (hg : ∀ (b : Bool) (s₁ : Shared) (Q' : Unit → Shared → Prop), Q' () s₁ → wpAny (model P w) A (g b) Q' E s₁)
    {o : Obj} {es es1 : Array (Int × Value)} {ep : Nat} {t t2 : SetTable} {ks1 : List Key} {wd : Bool} {R : Option Bool → Shared → Prop} (ho : s.heap.get? a = some o) (hex : o.ExactSet) (hd : o.data = .set es ep t)
    (h1 : Paired (Ent P w) es1.toList ks1) (nd : ks1.Nodup) (hb : es1.size < scanBound) (hf : t2.fits es1.size = true) (hs : Sound w t2)
    (hR : ∀ h' ks', Heap.SameBut a s.heap h' → ks1.Perm ks' → SetG P w h' a ks' → R (some true) { s with heap := h' }) :
    wpAny (model P w) A (do
        storeSet a es1 t2
        if (!wd && t2.tooFull) = true then do
          let z := relayAll t2 es1 (SetTable.grown es1.size)
          g z.2.2
          storeSet a z.1 z.2.1
          pure (some true)
        else pure (some true)) R E s := by
  have kept := fun (h : Heap) (es' : Array (Int × Value)) (t' : SetTable) => Heap.SameBut.update h a (Obj.putSet es' t')
  refine wpAny_bind (wpAny_storeSet_of ho hd ?_ (fits_of_scanBound hb))
  have e1 := store_at (es' := es1) (t' := t2) ho hd
  split
  · have q1 := relayAll_perm t2 es1 (SetTable.grown es1.size)
    have q2 := relayAll_fits t2 es1 (SetTable.grown es1.size)
    have q3 := relayAll_ris t2 es1 (SetTable.grown es1.size)
    have q4 := relayAll_led t2 es1 (SetTable.grown es1.size)
    dsimp only
    revert q1 q2 q3 q4
    generalize relayAll t2 es1 (SetTable.grown es1.size) = z
    intro q1 q2 q3 q4
    have zz : z.1.size = es1.size := by have := q1.length_eq; simpa using this
    have hb2 : z.1.size < scanBound := zz ▸ hb
    obtain ⟨ks2, p2, h2⟩ := pr_perm q1.symm h1
    refine wpAny_bind (hg _ _ _ (wpAny_bind (wpAny_storeSet_of e1 rfl ?_ (fits_of_scanBound hb2))))
    have e2 := store_at (es' := z.1) (t' := z.2.1) e1 rfl
    exact wpAny_pure (hR _ ks2 ((kept _ _ _).trans (kept _ _ _)) p2 ⟨_, z.1, _, z.2.1, e2, hex, rfl, h2, p2.nodup_iff.mp nd, hb2, q2, q3, hs.2.imp id fun y => q4.trans y⟩)
  · exact wpAny_pure (hR _ ks1 (kept _ _ _) (List.Perm.refl _) ⟨_, es1, _, t2, e1, hex, rfl, h1, nd, hb, hf, hs⟩)
/-- a key goes in -/
theorem setG_add {k : Key} {v : Value} {Q : Bool → Shared → Prop} (R : SetG P w s.heap a ks) (hv : (mixKind P w).is k v = true) (room : ks.length + 1 < scanBound)
    (hQ : ∀ h' ks' b, Heap.SameBut a s.heap h' → SetG P w h' a ks' → (k ∈ ks → ks.Perm ks') → (k ∉ ks → (k :: ks).Perm ks') → Q b { s with heap := h' }) :
    wpAny (model P w) A (setAddHashed a v ((mixKind P w).hash k)) Q E s := by
  obtain ⟨o, es, ep, t, ho, hex, hd, hE, nd, hb, hf, hs⟩ := id R
  have el := ents_elems hE
  have sc := scan_of hv
  have hlen : es.size = ks.length := by have := Paired.length hE; simpa using this
  unfold setAddHashed setAddHashedIn
  refine wpAny_holding (wpAny_bind (wpAny_setState_of ho hd hf ?_))
  dsimp only
  rw [byScan_of sc hb el, if_pos rfl]
  unfold setAddByScan
  refine wpAny_bind (wpAny_bind (wpAny_rule (wpAny_bind (wpAny_setScan_of hv ho hd hf el ?_))))
  cases hfi : List.findIdx? (fun e => (mixKind P w).is k e.2) es.toList with
  | some j =>
    obtain ⟨hj, pj, _⟩ := List.findIdx?_eq_some_iff_getElem.mp hfi
    obtain ⟨k', hk', _, q'⟩ := pr_left hE _ (List.getElem_mem hj)
    have ke : k = k' := (mixKind P w).inj _ _ _ pj q'
    dsimp only
    refine wpAny_pure (wpAny_pure ?_)
    exact hQ s.heap ks false (.refl a s.heap) R (fun _ => .refl _) fun z => absurd (ke ▸ hk') z
  | none =>
    have hk : k ∉ ks := fun z => by
      obtain ⟨e, he, _, q⟩ := pr_right hE k z
      exact absurd q (by rw [List.findIdx?_eq_none_iff.mp hfi e he]; exact Bool.false_ne_true)
    have gave : ∀ (b : Bool) (s₁ : Shared) (Q' : Unit → Shared → Prop), Q' () s₁ → wpAny (model P w) A (match b with | true => rule "set.scan.the-table-gave-way" | false => pure ()) Q' E s₁ := fun b s₁ Q' q => by
      cases b <;> first | exact wpAny_pure q | exact wpAny_rule q
    have p1 := layNew_perm t es ((mixKind P w).hash k) v
    have p2 := layNew_fits t es ((mixKind P w).hash k) v
    have p3 := layNew_ris t es ((mixKind P w).hash k) v hs.1
    have p4 := layNew_led t es ((mixKind P w).hash k) v
    dsimp only
    revert p1 p2 p3 p4
    generalize layNew t es ((mixKind P w).hash k) v = z
    obtain ⟨es1, t1, wd, gv⟩ := z
    dsimp only
    intro p1 p2 p3 p4
    rw [Array.toList_push] at p1
    have hE1 : Paired (Ent P w) (((mixKind P w).hash k, v) :: es.toList) (k :: ks) := .cons ⟨rfl, hv⟩ hE
    obtain ⟨ks1, m1, u1⟩ := pr_perm ((List.perm_append_singleton _ _).symm.trans p1.symm) hE1
    have hz : es1.size = ks.length + 1 := by
      have := p1.length_eq
      rw [List.length_append] at this
      simpa [hlen] using this
    have hb1 : es1.size < scanBound := hz ▸ room
    have hs1 : Sound w t1 := ⟨p3, hs.2.imp id fun y => p4.trans y⟩
    have nd1 : ks1.Nodup := m1.nodup_iff.mp (List.nodup_cons.mpr ⟨hk, nd⟩)
    have fin : ∀ h' ks', Heap.SameBut a s.heap h' → ks1.Perm ks' → SetG P w h' a ks' → Q true { s with heap := h' } := fun h' ks' sb pm r => hQ h' ks' true sb r (fun z => absurd z hk) fun _ => m1.trans pm
    refine wpAny_bind (gave gv _ _ ?_)
    split
    · rw [hashByValue_scannable 8 sc]
      refine wpAny_bind (wpAny_pure ?_)
      refine put_back gave ho hex hd u1 nd1 hb1 ?_ ?_ fun h' ks' sb pm r => ?_
      · split
        · exact p2
        · exact SetTable.fits_plain_off p2
      · split <;> exact hs1
      · dsimp only; exact wpAny_pure (fin h' ks' sb pm r)
    · refine wpAny_bind (wpAny_pure ?_)
      try rw [if_pos rfl]
      refine put_back gave ho hex hd u1 nd1 hb1 p2 hs1 fun h' ks' sb pm r => ?_
      dsimp only; exact wpAny_pure (fin h' ks' sb pm r)
end
end SG
namespace SG
open PySem PySem.Spec PyProof.Rows L2
section
variable {P : Program} {w : World} {A : Around} {E : Value → Shared → Prop} {s : Shared}
/-- all items of a walk go in -/
theorem fill {I S : Addr} {fp wr : List Addr} {G : Array GenState → Array GenState → Prop} {n : Nat} {Pv : Nat → Value → Prop} {St : Nat → Shared → Prop} {R : Result → Shared → Prop} (W : WalksS P w A.in1 I fp wr G n Pv St) (hS : S ∉ fp)
    (kl : List Key) (hn : n = kl.length) (hb : kl.length + 1 < scanBound) (hval : ∀ i v, Pv i v → ∃ k, kl[i]? = some k ∧ (mixKind P w).is k v = true) :
    ∀ (d i : Nat) (s : Shared) (ks : List Key), i + d = n → St i s → (∀ x, x ∈ ks ↔ x ∈ kl.take i) → ks.length ≤ i → SetG P w s.heap S ks →
      (∀ s' ks', Moved (S :: wr) G s s' → (∀ x, x ∈ ks' ↔ x ∈ kl) → ks'.length ≤ n → SetG P w s'.heap S ks' → R (.ok (.ret .none)) s') →
      codeAny (model P w) A (.builtin "set.update.loop" ⟨[.ref S, .ref I], []⟩) R s := by
  have nw : S ∉ wr := fun z => hS (W.sub S z)
  have more : ∀ b ∈ wr, b ∈ S :: wr := fun b z => List.mem_cons_of_mem S z
  intro d
  induction d with
  | zero =>
    intro i s ks hi st hm hl RS fin
    have hi' : i = n := by simpa using hi
    subst hi'
    refine codeAny_builtin F.entry_set_update_loop ?_
    rw [Around.under_plainId F.plain_set_update_loop _]
    unfold Builtin.«set.update.loop»
    refine wpAny_bind (W.done s _ _ st fun s' mv => ?_)
    refine wpAny_pure (fin s' ks (mv.mono more) (fun x => ?_) hl (RS.at fun o e => mv.heap S o nw e))
    rw [hm x, List.take_of_length_le (by omega)]
  | succ d ih =>
    intro i s ks hi st hm hl RS fin
    refine codeAny_builtin F.entry_set_update_loop ?_
    rw [Around.under_plainId F.plain_set_update_loop _]
    unfold Builtin.«set.update.loop»
    refine wpAny_bind (W.item i s _ _ (by omega) st fun v s' pv st' mv => ?_)
    obtain ⟨k, hk, hv⟩ := hval i v pv
    have RS' := RS.at (h' := s'.heap) fun o e => mv.heap S o nw e
    show wpAny _ A.in1 (holding [v] (setAdd S v) >>= _) _ _ s'
    refine wpAny_bind (wpAny_holding ?_)
    unfold setAdd
    refine wpAny_holding (wpAny_bind ((mixKind P w).pyHash hv ?_))
    have go : ∀ tk, s'.toks ≤ tk → wpAny (model P w) A.in1 (setAddHashed S v ((mixKind P w).hash k)) (fun _ s₂ => wpAny (model P w) A.in1 (pure (Fin.again (.builtin "set.update.loop" ⟨[.ref S, .ref I], []⟩))) (fun fin s' => match fin with | .done f => R (.ok f) s' | .again c' => c'.quiet = true ∧ codeAny (model P w) A c' R s') (fun e s' => R (.error e) s') s₂) (fun e s' => R (.error e) s') { s' with toks := tk } := fun tk htk => by
      refine setG_add (s := { s' with toks := tk }) RS' hv (by omega) fun h' ks' b sb R2 h1 h2 => ?_
      refine wpAny_pure ⟨plainId_quiet F.plain_set_update_loop _, ih (i + 1) _ ks' (by omega) (W.frame _ s' _ _ st' htk fun c hc o e => ?_) (fun x => ?_) ?_ R2 fun s'' ks'' mv2 m2 l2 r2 => ?_⟩
      · exact (sb.2 c fun z => hS (z ▸ hc)).trans e
      · rw [List.take_add_one, hk, List.mem_append]
        by_cases hkk : k ∈ ks
        · rw [← (h1 hkk).mem_iff, hm x]
          exact ⟨.inl, fun z => z.elim id fun z => by
            have : x = k := by simpa using z
            rw [this, ← hm k]; exact hkk⟩
        · rw [← (h2 hkk).mem_iff, List.mem_cons, hm x]
          simp [or_comm]
      · by_cases hkk : k ∈ ks
        · rw [← (h1 hkk).length_eq]; omega
        · rw [← (h2 hkk).length_eq, List.length_cons]; omega
      · refine fin s'' ks'' (Moved.trans W.gtrans ((mv.mono more).then_heap htk fun c o hc e => ?_) mv2) m2 l2 r2
        exact (sb.2 c fun z => hc (z ▸ List.mem_cons_self)).trans e
    exact go _ (by first | exact Nat.le_refl _ | exact Nat.le_succ _)
/-- set(xs), xs a list of ints and texts -/
theorem call_setG {l : Addr} {items : Array Value} {kl : List Key} {Q : Value → Shared → Prop} (hh : A.handled = none) (hl : s.heap.IsList l items) (hk : Paired (fun v k => (mixKind P w).is k v = true) items.toList kl) (hb : kl.length + 1 < scanBound)
    (h : ∀ (h' : Heap) (tk : Nat) (ks : List Key), SetG P w h' s.heap.objs.size ks → (∀ x, x ∈ ks ↔ x ∈ kl) → ks.length ≤ kl.length → (∀ b o, s.heap.get? b = some o → h'.get? b = some o) → Q (.ref s.heap.objs.size) { s with heap := h', toks := tk }) :
    wpAny (model P w) A (call (.type "set") [.ref l]) Q E s := by
  have hsz : items.size = kl.length := by have := Paired.length hk; simpa using this
  obtain ⟨c, tl, hmro⟩ := F.called_set.mro
  have hmade := F.called_set.made
  have hsub := F.called_set.sub
  have h1 := F.called_set.notType
  have h2 := F.called_set.canCreate
  have hct := F.typeCall_set_1 (.ref l)
  have hli := F.called_set.init.lookup
  have hbi := F.called_set.init.bind (.ref s.heap.objs.size)
  refine wpAny_call (codeAny_of_tree ?_)
  show wpAny _ _ (callAny (.type "set") _) _ _ _
  refine wpAny_pure ⟨Code.quiet_builtin _ (by decide +kernel), codeAny_builtin F.entry_type_call ?_⟩
  rw [Around.under_plain (weight_type_call_type "set" [.ref l] []) rfl]
  repeat (any_goals (first | assumption | wp_step))
  let ob : Obj := { cls := .type "set", dict := none, data := .set #[] 0 (.fresh 0 0 (!w.params.followText "set-order")) }
  refine codeAny_mono (code_set_led1 (.ref l) (E := E) (Q₁ := fun v t => v = .ref s.heap.objs.size ∧ t = { s with heap := s.heap.push ob }) ⟨rfl, rfl⟩) fun r t hr => ?_
  rcases r with e | f
  · exact hr
  rcases f with _ | _ | _ | v
  any_goals exact hr.elim
  obtain ⟨rfl, rfl⟩ := hr
  have hS : (s.heap.push ob).get? s.heap.objs.size = some ob := Heap.get?_push_size _ rfl
  have hT : Shared.TypeIs { s with heap := s.heap.push ob } (.ref s.heap.objs.size) "set" := ⟨_, hS, rfl⟩
  repeat (any_goals (first | assumption | wp_step))
  refine codeAny_mono (codeAny_call_builtin (R := wants (fun r t => r = .none ∧ ∃ h' tk ks, t = { s with heap := h', toks := tk } ∧ SetG P w h' s.heap.objs.size ks ∧ (∀ x, x ∈ ks ↔ x ∈ kl) ∧ ks.length ≤ kl.length ∧ ∀ b o, s.heap.get? b = some o → h'.get? b = some o) E)
    F.called_set.init.plain F.entry_set_init (check_set_init_1 hT ?_)) fun r t hr => ?_
  · obtain ⟨ol, hol, hcl, nl, hdl⟩ := id hl
    have hlt : l < s.heap.objs.size := Heap.lt_size hol
    obtain ⟨ocls, odict, odata, oslots⟩ := ol
    simp only at hcl hdl
    subst hcl hdl
    have old : ∀ b u, s.heap.get? b = some u → (s.heap.push ob).get? b = some u := fun b u e => Heap.get?_push_of_some ob e
    have hol' := old _ _ hol
    have hsls := F.sub_list_set
    have hslf := F.sub_list_frozenset
    have hnd : (Value.type "list" == Value.type "dict") = false := by decide
    have hl1 : (s.heap.push ob).IsList l items := ⟨_, hol', rfl, nl, rfl⟩
    have hz1 : (s.heap.push ob).objs.size = s.heap.objs.size + 1 := Heap.size_push ..
    unfold Builtin.«set.__init__» noKeywords Builtin.Frozenset.updateFrom
    generalize hPI : pyIter = PI
    wp_walk
    subst hPI
    refine wpAny_pyIter_list hl1 ?_
    refine wpAny_bind (wpAny_runValue ?_)
    have hh3 : A.in1.in1.in1.handled = none := by simp [hh]
    have nI : l ≠ (s.heap.push ob).objs.size := by rw [hz1]; exact Nat.ne_of_lt (Nat.lt_succ_of_lt hlt)
    have nS : s.heap.objs.size ∉ [(s.heap.push ob).objs.size, l] := by
      rw [hz1]
      intro z
      rcases List.mem_cons.mp z with z | z
      · omega
      · exact Nat.ne_of_gt hlt (List.mem_singleton.mp z)
    have hval : ∀ (i : Nat) (v : Value), items[i]? = some v → ∃ k, kl[i]? = some k ∧ (mixKind P w).is k v = true := fun i v hv => by
      have q : ∀ {us : List Value} {ks : List Key} {i : Nat}, Paired (fun v k => (mixKind P w).is k v = true) us ks → us[i]? = some v → ∃ k, ks[i]? = some k ∧ (mixKind P w).is k v = true := by
        intro us ks i p
        induction p generalizing i with
        | nil => intro e; simp at e
        | cons r _ ih =>
          intro e
          cases i with
          | zero => simp at e; subst e; exact ⟨_, rfl, r⟩
          | succ i => simpa using ih (by simpa using e)
      exact q hk (by rw [Array.getElem?_toList]; exact hv)
    have hS2 : ((s.heap.push ob).push { cls := .type "list_iterator", data := .fields #[.ref l, .int 0 0] }).get? s.heap.objs.size = some ob := Heap.get?_push_of_some _ hS
    refine fill ((Walks.list hh3 _ l nI items).toS) nS kl hsz hb hval items.size 0 _ [] (by omega) ⟨⟨_, Heap.get?_push_size _ rfl, rfl, rfl⟩, (hl1.push _)⟩ (fun x => by simp) (Nat.le_refl _)
      ⟨ob, #[], 0, _, hS2, ⟨rfl, rfl, rfl⟩, rfl, .nil, List.nodup_nil, by decide, rfl, fresh_sound w⟩ fun s' ks' mv hm' hl' R' => ?_
    obtain ⟨h', g', d', tk', os'⟩ := s'
    have eg : g' = s.gens := mv.gens
    have ed : d' = s.drawn := mv.drawn
    have eo : os' = s.os := mv.os
    subst eg ed eo
    refine wpAny_pure (wpAny_pure ⟨rfl, h', tk', ks', rfl, R', hm', hsz ▸ hl', fun b o e => ?_⟩)
    have hb0 : b < s.heap.objs.size := Heap.lt_size e
    refine mv.heap b o (fun z => ?_) (Heap.get?_push_of_some _ (old b o e))
    rcases List.mem_cons.mp z with z | z
    · exact Nat.ne_of_lt hb0 z
    · have z := List.mem_singleton.mp z
      rw [hz1] at z
      exact Nat.ne_of_lt (Nat.lt_succ_of_lt hb0) z
  · rcases r with e | f
    · exact hr
    rcases f with _ | _ | _ | v
    any_goals exact hr.elim
    obtain ⟨rfl, h', tk, ks, rfl, R', hm', hl', hk'⟩ := hr
    repeat (any_goals (first | assumption | wp_step))
    exact h _ _ _ R' hm' hl' hk'
end
end SG
namespace SG
open PySem PySem.Spec PyProof.Rows L2
section
variable {P : Program} {w : World} {A : Around} {E : Value → Shared → Prop} {s : Shared} {a : Addr} {ks : List Key}
theorem ents_vals : ∀ {l : List (Int × Value)} {ks : List Key}, Paired (Ent P w) l ks → Paired (fun v k => (mixKind P w).is k v = true) (l.map (·.2)) ks
  | _, _, .nil => .nil
  | _, _, .cons r t => .cons r.2 (ents_vals t)
/-- sorted(set), by whatever sorts a list of its members -/
theorem sortedBy {Good : List Key → Array Value → Prop} {Q : Value → Shared → Prop} (R : SetG P w s.heap a ks) (hh : A.handled = none) (h64 : ks.length < 64)
    (sorts : ∀ (A : Around) (E : Value → Shared → Prop) (vs : List Value) (kl : List Key) (s1 : Shared) (b : Addr) (Pd : Fin → Shared → Prop), Paired (fun v k => (mixKind P w).is k v = true) vs kl → kl.Perm ks → s1.heap.get? b = some (seqObj "list" vs.toArray 0) →
      (∀ out, Good ks out → Pd (.done (.ret .none)) { s1 with heap := sortedHeap s1.heap b vs out }) → wpAny (model P w) A (Builtin.«list.sort» ⟨[.ref b], []⟩) Pd E s1)
    (hQ : ∀ s' p out c, (∀ b o, s.heap.get? b = some o → s'.heap.get? b = some o) → s'.gens = s.gens → s'.os = s.os → s.heap.objs.size ≤ p → s'.heap.get? p = some (seqObj "list" out c) → Good ks out → Q (.ref p) s') :
    wpAny (model P w) A (call (.builtin "sorted") [.ref a]) Q E s := by
  obtain ⟨o, es, ep, t, ho, hex, hd, hE, nd, hb, hf, hs⟩ := R
  have hlen : es.size = ks.length := by have := Paired.length hE; simpa using this
  refine Calls.call_function_entry kind_sorted plain_sorted entry_sorted (args_sorted1 _) ?_
  unfold Builtin.«sorted»
  refine wpAny_bind (m := checkCount "sorted" 1 1 _) (wpAny_pure (wpAny_bind (collect_set (A := A.in1) hh ⟨o, ho, hex.1, hd⟩ hf hb hs.1 hs.2 fun s1 vs kp hz g1 o1 pm => ?_)))
  have hP := ents_vals hE
  obtain ⟨kl, p2, hV⟩ := pr_perm pm.symm hP
  have hvl : vs.length ≤ 64 := by
    have e1 := Paired.length hV
    have e2 := p2.length_eq
    omega
  refine wpAny_bind (wpAny_newList ?_ (Nat.le_trans hvl (by decide)))
  have hoL : (s1.heap.push (seqObj "list" vs.toArray 0)).get? s1.heap.objs.size = some (seqObj "list" vs.toArray 0) := Heap.get?_push_size _ rfl
  refine wpAny_bind (wpAny_holding (wpAny_call_entry slot_list_sort ⟨_, hoL, rfl⟩ entry_list_sort (sorts _ _ vs kl _ _ _ hV p2.symm hoL fun out g => ⟨_, rfl, ?_⟩) (args_list_sort _)))
  obtain ⟨c, hc⟩ := sortedHeap_at (vs := vs) (out := out) hoL
  refine wpAny_pure ⟨_, rfl, hQ _ s1.heap.objs.size out c (fun b u e => ?_) g1 o1 hz hc g⟩
  have hlt := Heap.lt_size (kp b u e)
  refine Eq.trans (sortedHeap_old (Nat.ne_of_lt hlt) ?_) (Heap.get?_push_of_some _ (kp b u e))
  rw [size_push']
  exact Nat.lt_succ_of_lt hlt
/-- a strictly rising row of texts with the members ks -/
def GoodS (ks : List Key) (out : Array Value) : Prop := ∃ ys : List Str, StrsAre out.toList ys ∧ sortedS ys = true ∧ (ys.map Sum.inr : List Key).Perm ks
def GoodI (ks : List Key) (out : Array Value) : Prop := ∃ ys : List Int, IntsAre out.toList ys ∧ ys.Pairwise (· ≤ ·) ∧ (ys.map Sum.inl : List Key).Perm ks
theorem pr_strs : ∀ {vs : List Value} {xs : List Str}, Paired (fun v k => (mixKind P w).is k v = true) vs (xs.map Sum.inr) → StrsAre vs xs
  | [], [], _ => .nil
  | _ :: _, x :: xs, .cons r t => by
    rcases keyIs_shape (show keyIs (Sum.inr x) _ = true from r) with ⟨_, _, e, _⟩ | ⟨y, u, e, e'⟩
    · cases e
    · cases e; subst e'
      exact .cons _ u (pr_strs t)
theorem pr_ints : ∀ {vs : List Value} {xs : List Int}, Paired (fun v k => (mixKind P w).is k v = true) vs (xs.map Sum.inl) → IntsAre vs xs
  | [], [], _ => .nil
  | _ :: _, x :: xs, .cons r t => by
    rcases keyIs_shape (show keyIs (Sum.inl x) _ = true from r) with ⟨y, u, e, e'⟩ | ⟨_, _, e, _⟩
    · cases e; subst e'
      exact .cons _ u (pr_ints t)
    · cases e
theorem all_inr : ∀ (kl : List Key), (∀ k ∈ kl, ∃ x, k = Sum.inr x) → ∃ xs : List Str, kl = xs.map Sum.inr
  | [], _ => ⟨[], rfl⟩
  | k :: r, h => by
    obtain ⟨x, rfl⟩ := h k List.mem_cons_self
    obtain ⟨xs, rfl⟩ := all_inr r fun y hy => h y (List.mem_cons_of_mem _ hy)
    exact ⟨x :: xs, rfl⟩
theorem all_inl : ∀ (kl : List Key), (∀ k ∈ kl, ∃ x, k = Sum.inl x) → ∃ xs : List Int, kl = xs.map Sum.inl
  | [], _ => ⟨[], rfl⟩
  | k :: r, h => by
    obtain ⟨x, rfl⟩ := h k List.mem_cons_self
    obtain ⟨xs, rfl⟩ := all_inl r fun y hy => h y (List.mem_cons_of_mem _ hy)
    exact ⟨x :: xs, rfl⟩
theorem sortsS (hk : ∀ k ∈ ks, ∃ x, k = Sum.inr x) (h64 : ks.length < 64) (A : Around) (E : Value → Shared → Prop) (vs : List Value) (kl : List Key) (s1 : Shared) (b : Addr) (Pd : Fin → Shared → Prop) (hV : Paired (fun v k => (mixKind P w).is k v = true) vs kl) (p : kl.Perm ks)
    (hb : s1.heap.get? b = some (seqObj "list" vs.toArray 0)) (fin : ∀ out, GoodS ks out → Pd (.done (.ret .none)) { s1 with heap := sortedHeap s1.heap b vs out }) : wpAny (model P w) A (Builtin.«list.sort» ⟨[.ref b], []⟩) Pd E s1 := by
  obtain ⟨xs, rfl⟩ := all_inr kl fun k hm => hk k (p.mem_iff.mp hm)
  have hS := pr_strs hV
  have hl : vs.length < 64 := by rw [Paired.length hV, p.length_eq]; exact h64
  refine list_sort_treeK strKind_oneLt hb hS.keysOf (fun v₁ v₂ rest e => keyKind_strs (by rw [← e]; exact hS)) hl fun st' q1 q2 => ?_
  obtain ⟨ys, h1, h2, h3⟩ := sorted_out_str hS q1 q2
  exact fin _ ⟨ys, h1, h3, (h2.map Sum.inr).trans p⟩
theorem sortsI (hk : ∀ k ∈ ks, ∃ x, k = Sum.inl x) (h64 : ks.length < 64) (A : Around) (E : Value → Shared → Prop) (vs : List Value) (kl : List Key) (s1 : Shared) (b : Addr) (Pd : Fin → Shared → Prop) (hV : Paired (fun v k => (mixKind P w).is k v = true) vs kl) (p : kl.Perm ks)
    (hb : s1.heap.get? b = some (seqObj "list" vs.toArray 0)) (fin : ∀ out, GoodI ks out → Pd (.done (.ret .none)) { s1 with heap := sortedHeap s1.heap b vs out }) : wpAny (model P w) A (Builtin.«list.sort» ⟨[.ref b], []⟩) Pd E s1 := by
  obtain ⟨xs, rfl⟩ := all_inl kl fun k hm => hk k (p.mem_iff.mp hm)
  have hl : vs.length < 64 := by rw [Paired.length hV, p.length_eq]; exact h64
  exact list_sort_tree hb (pr_ints hV) hl fun out ys h1 h2 h3 => fin _ ⟨ys, h1, h3, (h2.map Sum.inl).trans p⟩
end
/-! ### as rules -/
/-- the set at a, its members ks -/
def SetO (P : Program) (w : World) (a : Addr) (ks : List Key) : HO := .ext fun h => SetG P w h a ks
section
variable {X : Cx}
theorem setO_at {pins : List (Addr × Obj)} {σ : L2.St} {H : Hp} {s : Shared} {a : Addr} {ks : List Key} (I : Inv X pins σ H s) (h : H a = some (SetO X.prog X.w a ks)) : SetG X.prog X.w s.heap a ks := (I.hok a _ h).1
theorem vals_keys : ∀ {xs : List Key} {us : List Value}, Vals (xs.map kV) us → Paired (fun v k => (mixKind X.prog X.w).is k v = true) us xs
  | [], _, .nil => .nil
  | k :: xs, _, .cons r t => .cons (by
    cases k with
    | inl i => obtain ⟨t, rfl⟩ := r; exact keyIs_int i t
    | inr x => obtain ⟨t, rfl⟩ := r; exact keyIs_str x t) (vals_keys t)
def rSetL (P : Program) (w : World) (K : PySem.W.Frag) : List V → Hp → VK → Prop := fun vs H Q => ∃ (l : Addr) (xs : List Key), vs = [.ref l] ∧ SqL K H l (xs.map kV) ∧ xs.length < 64 ∧
  ∀ p ks, H p = none → ks.Nodup → (∀ k, k ∈ ks ↔ k ∈ xs) → ks.length ≤ xs.length → Q (.ref p) (upd H p (SetO P w p ks))
theorem cr_setL (hc : X.calm = true) : CallR X (.type "set") (rSetL X.prog X.w X.K) := by
  intro pins s σ H vs us Q I r h
  obtain ⟨l, xs, rfl, hl, h64, q⟩ := h
  obtain ⟨its, rv, pl, _⟩ := I.list hl
  rw [Vals.ref1 r]
  refine call_setG (P := X.prog) (w := X.w) (I.ok.hd hc) pl.isList (vals_keys rv) (Nat.lt_of_le_of_lt (Nat.succ_le_of_lt h64) (by decide)) fun h' tk ks R hm hl kp => ?_
  have hn : H s.heap.objs.size = none := I.hok.fresh (Nat.le_refl _)
  have nd : ks.Nodup := by obtain ⟨_, _, _, _, _, _, _, _, nd, _⟩ := R; exact nd
  exact ⟨.ref s.heap.objs.size, upd H s.heap.objs.size (SetO X.prog X.w s.heap.objs.size ks), I.laid (t' := tk) kp (Nat.le_refl _) ⟨R, R.ob, fun _ _ R' k => R'.at k⟩, rfl, q _ ks hn nd hm hl⟩
/-- sorted of a set of texts -/
def rSortS (P : Program) (w : World) : List V → Hp → VK → Prop := fun vs H Q => ∃ (a : Addr) (ks : List Key), vs = [.ref a] ∧ H a = some (SetO P w a ks) ∧ (∀ k ∈ ks, ∃ x, k = Sum.inr x) ∧ ks.length < 64 ∧
  ∀ (ys : List Str) (p : Addr), sortedS ys = true → (ys.map Sum.inr : List Key).Perm ks → H p = none → Q (.ref p) (upd H p (.lst (ys.map V.str)))
theorem cr_sortS (hc : X.calm = true) : CallR X (.builtin "sorted") (rSortS X.prog X.w) := by
  intro pins s σ H vs us Q I r h
  obtain ⟨a, ks, rfl, ha, hk, h64, q⟩ := h
  rw [Vals.ref1 r]
  refine sortedBy (setO_at I ha) (I.ok.hd hc) h64 (sortsS hk h64) fun s' p out c k g o hp hg ⟨ys, h1, h2, h3⟩ => ?_
  have hz : (ys.map V.str).length ≤ sizeLine := by
    have := h3.length_eq
    rw [List.length_map] at this ⊢
    exact Nat.le_trans (Nat.le_of_lt (this ▸ h64)) (by decide)
  have hn : H p = none := I.hok.fresh hp
  have J : Inv X pins σ (upd H p (.lst (ys.map V.str))) { s with heap := s'.heap, gens := s'.gens, drawn := s'.drawn, toks := s'.toks } :=
    I.call (ch := []) (Un.laid k hp hn) (I.hok.laid k hp ⟨hz, out.toList, c, vals_of_strs h1, hg⟩) (by rw [g]; exact I.bare) (fun _ z => nomatch z)
  obtain ⟨h', g', d', t', o'⟩ := s'
  obtain rfl : o' = s.os := o
  exact ⟨.ref p, _, J, rfl, q ys p h2 h3 hn⟩
/-- sorted of a set of ints -/
def rSortI (P : Program) (w : World) : List V → Hp → VK → Prop := fun vs H Q => ∃ (a : Addr) (ks : List Key), vs = [.ref a] ∧ H a = some (SetO P w a ks) ∧ (∀ k ∈ ks, ∃ x, k = Sum.inl x) ∧ ks.length < 64 ∧
  ∀ (ys : List Int) (p : Addr), ys.Pairwise (· ≤ ·) → (ys.map Sum.inl : List Key).Perm ks → H p = none → Q (.ref p) (upd H p (.lst (ys.map V.int)))
theorem cr_sortI (hc : X.calm = true) : CallR X (.builtin "sorted") (rSortI X.prog X.w) := by
  intro pins s σ H vs us Q I r h
  obtain ⟨a, ks, rfl, ha, hk, h64, q⟩ := h
  rw [Vals.ref1 r]
  refine sortedBy (setO_at I ha) (I.ok.hd hc) h64 (sortsI hk h64) fun s' p out c k g o hp hg ⟨ys, h1, h2, h3⟩ => ?_
  have hz : (ys.map V.int).length ≤ sizeLine := by
    have := h3.length_eq
    rw [List.length_map] at this ⊢
    exact Nat.le_trans (Nat.le_of_lt (this ▸ h64)) (by decide)
  have hn : H p = none := I.hok.fresh hp
  have J : Inv X pins σ (upd H p (.lst (ys.map V.int))) { s with heap := s'.heap, gens := s'.gens, drawn := s'.drawn, toks := s'.toks } :=
    I.call (ch := []) (Un.laid k hp hn) (I.hok.laid k hp ⟨hz, out.toList, c, vals_of_ints h1, hg⟩) (by rw [g]; exact I.bare) (fun _ z => nomatch z)
  obtain ⟨h', g', d', t', o'⟩ := s'
  obtain rfl : o' = s.os := o
  exact ⟨.ref p, _, J, rfl, q ys p h2 h3 hn⟩
end
end SG
/-! walks told by their own words: forJ, lcJ; enumerate(text) -/
namespace L2
open PySem PySem.Spec PyProof.Rows
abbrev ForW (J : It) (g : TG) (tb : TS) (D : Ends) (σ : St) (H : Hp) : Prop :=
    ∃ W : Nat → Nat → St → Hp → Prop, (∃ m, W 0 m σ H) ∧ ∀ i m σ H, W i m σ H → (J.stop i H ∧ D.nx σ H) ∨ (J.go i H ∧ ∃ N : St → Hp → Prop, (∀ σ' H', N σ' H' → ∃ m', m' < m ∧ W (i + 1) m' σ' H') ∧
      ∀ x H', J.yld i H x H' → g x σ H' fun σ2 H2 => tb { D with nx := N, ct := N, bk := D.nx } σ2 H2)
abbrev LcW (J : It) (g : TG) (tt : TT) (te : TE) (vs : List Nat) (σ : St) (H1 : Hp) (L : Addr) (Qd : Hp → Prop) : Prop :=
    ∃ W : Nat → Nat → Hp → Prop, (∃ m, W 0 m (upd H1 L (.lst []))) ∧ ∀ i m H, W i m H → (J.stop i H ∧ Qd H) ∨ (J.go i H ∧ ∃ Nx : Hp → Prop, (∀ H', Nx H' → ∃ m', m' < m ∧ W (i + 1) m' H') ∧
      ∀ x H', J.yld i H x H' → g x (wipe σ vs) H' fun σ2 H2 => wipe σ2 vs = wipe σ vs ∧ tt σ2 H2 fun b H3 => if b = true then te σ2 H3 fun y H4 => ∃ acc, H4 L = some (.lst acc) ∧ acc.length < sizeLine ∧ Nx (upd H4 L (.lst (acc ++ [y]))) else Nx H3)
/-- a for over n turns, by a word of the turn, the slots and the heap -/
theorem forJ {J : It} {n : Nat} {g : TG} {tb : TS} {D : Ends} {σ : St} {H : Hp} (Pv : Nat → St → Hp → Prop) (h0 : Pv 0 σ H) (hgo : ∀ i σ H, i < n → Pv i σ H → J.go i H) (hst : ∀ σ H, Pv n σ H → J.stop n H)
    (hs : ∀ i x σ H H', i < n → Pv i σ H → J.yld i H x H' → g x σ H' fun σ2 H2 => tb { D with nx := Pv (i + 1), ct := Pv (i + 1), bk := D.nx } σ2 H2) (hd : ∀ σ H, Pv n σ H → D.nx σ H) :
    ForW J g tb D σ H := by
  refine ⟨fun i m σ H => i + m = n ∧ Pv i σ H, ⟨n, Nat.zero_add n, h0⟩, fun i m σ H ⟨e, p⟩ => ?_⟩
  cases m with
  | zero =>
    have e' : i = n := by simpa using e
    subst e'
    exact .inl ⟨hst σ H p, hd σ H p⟩
  | succ m =>
    have hi : i < n := by omega
    exact .inr ⟨hgo i σ H hi p, Pv (i + 1), fun σ' H' q => ⟨m, Nat.lt_succ_self m, by omega, q⟩, fun x H' y => hs i x σ H H' hi p y⟩
/-- a comprehension over n turns -/
theorem lcJ {J : It} {n : Nat} {g : TG} {tt : TT} {te : TE} {vs : List Nat} {σ : St} {H1 : Hp} {L : Addr} {Qd : Hp → Prop} (Pv : Nat → Hp → Prop) (h0 : Pv 0 (upd H1 L (.lst []))) (hgo : ∀ i H, i < n → Pv i H → J.go i H) (hst : ∀ H, Pv n H → J.stop n H)
    (hs : ∀ i x H H', i < n → Pv i H → J.yld i H x H' → g x (wipe σ vs) H' fun σ2 H2 => wipe σ2 vs = wipe σ vs ∧ tt σ2 H2 fun b H3 => if b = true then te σ2 H3 fun y H4 => ∃ acc, H4 L = some (.lst acc) ∧ acc.length < sizeLine ∧ Pv (i + 1) (upd H4 L (.lst (acc ++ [y]))) else Pv (i + 1) H3) (hd : ∀ H, Pv n H → Qd H) :
    LcW J g tt te vs σ H1 L Qd := by
  refine ⟨fun i m H => i + m = n ∧ Pv i H, ⟨n, Nat.zero_add n, h0⟩, fun i m H ⟨e, p⟩ => ?_⟩
  cases m with
  | zero =>
    have e' : i = n := by simpa using e
    subst e'
    exact .inl ⟨hst H p, hd H p⟩
  | succ m =>
    have hi : i < n := by omega
    exact .inr ⟨hgo i H hi p, Pv (i + 1), fun H' q => ⟨m, Nat.lt_succ_self m, by omega, q⟩, fun x H' y => hs i x H H' hi p y⟩
/-! ### enumerate(text) -/
def IteS (z : Str) : It := ⟨fun i _ => i < z.cps.size, fun i H v H' => ∃ T c, v = .ref T ∧ H T = none ∧ H' = upd H T (.tup [.int (i : Nat), .str ⟨#[c]⟩]) ∧ z.cps[i]? = some c, fun i _ => i = z.cps.size⟩
theorem drawsS {P : Program} {w : World} {A : Around} (hh : A.handled = none) (it : Addr) (z : Str) (t : Tok) :
    Draws P w A it [it] z.cps.size (fun i v => ∃ c u, z.cps[i]? = some c ∧ v = .str ⟨#[c]⟩ u) (fun i h => h.IsStrIter it (strIterType z) z t i) := by
  cases ha : z.cps.all (· < 128)
  · rw [show strIterType z = "str_iterator" from by simp [strIterType, ha]]; exact Draws.strWide hh it z t
  · rw [show strIterType z = "str_ascii_iterator" from by simp [strIterType, ha]]; exact Draws.strAscii hh it z t
theorem turn_enumS {P : Program} {w : World} {K : PySem.W.Frag} {elts : List Expr} {kk : Nat} {tpos : Pos} (z : Str) (t : Tok) (e it : Addr) :
    Turn P w K (.Tuple elts kk tpos) (IteS z) [e, it] e (fun i h => (∃ old, IsEnum h e it ((i : Nat) : Int) old) ∧ h.IsStrIter it (strIterType z) z t i ∧ e ≠ it) where
  mem := List.mem_cons_self
  obj := fun i h st b hb => by
    obtain ⟨⟨old, he⟩, hit, _⟩ := st
    obtain ⟨o, ho, _, hd⟩ := hit
    rcases List.mem_cons.mp hb with y | y
    · rw [y]; exact ⟨_, he, fun v q => nomatch q⟩
    · rw [List.mem_singleton.mp y]; exact ⟨o, ho, fun v q => by rw [hd] at q; cases q⟩
  keep := fun i h h' st k => by
    obtain ⟨⟨old, he⟩, hit, ne⟩ := st
    obtain ⟨o, ho, r⟩ := hit
    exact ⟨⟨old, k e List.mem_cons_self _ he⟩, ⟨o, k it (List.mem_cons_of_mem _ List.mem_cons_self) o ho, r⟩, ne⟩
  item := by
    intro X hP hw hK hc i pins s σ H E I hf ⟨⟨old, he⟩, hit, ne⟩ hg
    subst hP hw hK
    have hh : X.A.in1.handled = none := I.ok.hd hc
    have le : e < s.heap.objs.size := Heap.lt_size he
    have li : it < s.heap.objs.size := let ⟨_, q, _⟩ := hit; Heap.lt_size q
    have nin : e ∉ [it] := fun y => ne (List.mem_singleton.mp y)
    refine wpAny_pyNext_enum_itemD (drawsS hh it z t) he hit hg ne nin fun x h' tk ⟨c, u, hx, ex⟩ ho hit' hT _ hk => ?_
    subst ex
    refine ⟨_, rfl, wpAny_letOwnedTupleGo_enum (s := { s with heap := h', toks := tk + 1 }) ho fun h2 he2 sb => ?_⟩
    let new : HO := .tup [.int (i : Nat), .str ⟨#[c]⟩]
    have hT2 := (sb.2 _ (Nat.ne_of_gt le)).trans hT
    have nw : ObjOk X.prog X.w (upd H s.heap.objs.size new) h2 s.heap.objs.size new := ⟨by show 2 ≤ sizeLine; decide, _, .cons ⟨tk, rfl⟩ (.cons ⟨u, rfl⟩ .nil), ⟨_, hT2, rfl, _, rfl⟩⟩
    have J : Inv X pins σ (upd H s.heap.objs.size new) { s with heap := h2, toks := tk + 1 } :=
      I.turnedNew (ch := [e, it]) (fun b ob hb q => (sb.2 b fun y => hb (y ▸ List.mem_cons_self)).trans (hk b ob (fun y => hb (y ▸ List.mem_cons_self)) (fun y => hb (y ▸ List.mem_cons_of_mem _ List.mem_cons_self)) q)) hf (Nat.le_refl _) nw
    refine ⟨.ref s.heap.objs.size, _, J, rfl, ⟨_, c, rfl, I.hok.fresh (Nat.le_refl _), rfl, hx⟩, ⟨⟨.str ⟨#[c]⟩ u, ?_⟩, ?_, ne⟩, fun b hb => ?_⟩
    · have := he2
      rwa [show ((i + 1 : Nat) : Int) = (i : Int) + 1 from by omega]
    · obtain ⟨o, q, r⟩ := hit'
      exact ⟨o, (sb.2 it (Ne.symm ne)).trans q, r⟩
    · have lb : b < s.heap.objs.size := by
        rcases List.mem_cons.mp hb with y | y
        · exact y ▸ le
        · exact List.mem_singleton.mp y ▸ li
      rw [upd_ne (Nat.ne_of_lt lb)]
      exact (hf b hb).1
  done := by
    intro X hP hw hK hc i pins s σ H E I hf ⟨⟨old, he⟩, hit, ne⟩ hg
    subst hP hw hK
    obtain ⟨f0, f1, f2, f3, f4, f5⟩ := hf it (List.mem_cons_of_mem _ List.mem_cons_self)
    obtain rfl : i = z.cps.size := hg
    have hh : X.A.in1.handled = none := I.ok.hd hc
    exact wpAny_pyNext_enum_endD (drawsS hh it z t) he hit fun h' eb => ⟨rfl, I.turned (t' := s.toks) (fun b o hb e => eb b o hb e) f0 f1 f3 f4 f5⟩
  self := fun A i s Q E ⟨⟨_, he⟩, _⟩ h => wpAny_pyIter_enum he h
def iEnumS (ta : TA) : TI := fun σ H R => ta σ H fun vs H1 => ∃ z, vs = [.str z] ∧ R (IteS z) H1
theorem pi_enumS {X : Cx} {e : Expr} {ta : TA} {p pos tpos : Pos} {elts : List Expr} {kk : Nat} (hg : Gl X "enumerate") (hm : X.mg "enumerate" = none) (ha : PA X [e] ta) (hs : starEach [e] X.env = [(false, eval e X.env)] := by rfl) :
    PI X (.Tuple elts kk tpos) (.Call (.Name "enumerate" p) [e] [] pos) (iEnumS ta) := by
  refine ⟨fun pins s σ H R I h => Call_ (ld_blt I hg hm boot_enumerate (PyProof.Rows.callWith_type1 (thn (ha.run pos pins s σ H _ I h) fun us s1 ⟨vs, H1, I1, r1, z, ez, q⟩ => ?_) hs rfl))⟩
  subst ez
  cases r1 with
  | cons r rr =>
    cases rr
    obtain ⟨t, rfl⟩ := r
    refine call_enumerate_str fun h' hE hit _ hk => wpAny_pyIter_enum hE ?_
    refine ⟨s1.heap.objs.size + 1, [s1.heap.objs.size + 1, s1.heap.objs.size], _, _, H1, rfl, I1.kept hk, turn_enumS z t _ _, ⟨⟨.none, hE⟩, hit, Nat.succ_ne_self _⟩, fun b hb => ?_, q⟩
    have le : s1.heap.objs.size ≤ b := by
      rcases List.mem_cons.mp hb with y | y
      · rw [y]; exact Nat.le_succ _
      · rw [List.mem_singleton.mp y]; exact Nat.le_refl _
    exact I1.fpOk le (I1.hok.fresh le)
/-- over the signs of a text, numbered -/
theorem for_enumS {z : Str} {g : TG} {tb : TS} {D : Ends} {σ : St} {H : Hp} (Pv : Nat → St → Hp → Prop) (h0 : Pv 0 σ H)
    (hs : ∀ i c σ H T, z.cps[i]? = some c → Pv i σ H → H T = none → g (.ref T) σ (upd H T (.tup [.int (i : Nat), .str ⟨#[c]⟩])) fun σ2 H2 => tb { D with nx := Pv (i + 1), ct := Pv (i + 1), bk := D.nx } σ2 H2) (hd : ∀ σ H, Pv z.cps.size σ H → D.nx σ H) : ForW (IteS z) g tb D σ H :=
  forJ (J := IteS z) (n := z.cps.size) Pv h0 (fun _ _ _ h _ => h) (fun _ _ _ => rfl) (fun i x σ H H' hi p ⟨T, c, ex, hT, eH, hc⟩ => by subst ex eH; exact hs i c σ H T hc p hT) hd
theorem for_str {z : Str} {g : TG} {tb : TS} {D : Ends} {σ : St} {H : Hp} (Pv : Nat → St → Hp → Prop) (h0 : Pv 0 σ H)
    (hs : ∀ i c σ H, z.cps[i]? = some c → Pv i σ H → g (.str ⟨#[c]⟩) σ H fun σ2 H2 => tb { D with nx := Pv (i + 1), ct := Pv (i + 1), bk := D.nx } σ2 H2) (hd : ∀ σ H, Pv z.cps.size σ H → D.nx σ H) : ForW (Its z) g tb D σ H :=
  forJ (J := Its z) (n := z.cps.size) Pv h0 (fun _ _ _ h _ => h) (fun _ _ _ => Nat.le_refl _) (fun i x σ H H' hi p ⟨eH, c, hc, ex⟩ => by subst ex eH; exact hs i c σ _ hc p) hd
theorem lc_str {z : Str} {g : TG} {tt : TT} {te : TE} {vs : List Nat} {σ : St} {H1 : Hp} {L : Addr} {Qd : Hp → Prop} (Pv : Nat → Hp → Prop) (h0 : Pv 0 (upd H1 L (.lst [])))
    (hs : ∀ i c H, z.cps[i]? = some c → Pv i H → g (.str ⟨#[c]⟩) (wipe σ vs) H fun σ2 H2 => wipe σ2 vs = wipe σ vs ∧ tt σ2 H2 fun b H3 => if b = true then te σ2 H3 fun y H4 => ∃ acc, H4 L = some (.lst acc) ∧ acc.length < sizeLine ∧ Pv (i + 1) (upd H4 L (.lst (acc ++ [y]))) else Pv (i + 1) H3) (hd : ∀ H, Pv z.cps.size H → Qd H) : LcW (Its z) g tt te vs σ H1 L Qd :=
  lcJ (J := Its z) (n := z.cps.size) Pv h0 (fun _ _ h _ => h) (fun _ _ => Nat.le_refl _) (fun i x H H' hi p ⟨eH, c, hc, ex⟩ => by subst ex eH; exact hs i c _ hc p) hd
end L2
set_option linter.all false
/-! kinds of values -/
namespace L2
open PySem PySem.Spec PyProof.Rows
/-- a value that is no instance of the built-in class n -/
def IsNot (K : PySem.W.Frag) (H : Hp) (v : V) (n : String) : Prop := ∃ t, TyX K H v t ∧ PySem.W.kitOne K t (.type n) = some false
def numOk (v : V) (lo hi : Int) : Bool := match v with
  | .int i => decide (lo ≤ i) && decide (i ≤ hi)
  | _ => false
def NumV (K : PySem.W.Frag) (H : Hp) (v : V) : Prop := (∃ i, v = .int i) ∨ (∃ b, v = .bl b) ∨ IsNot K H v "int"
theorem kit_self {K : PySem.W.Frag} {n : String} {b : Bool} (h : PySem.W.kitOne K (.type n) (.type n) = some b) : b = true := by
  unfold PySem.W.kitOne at h
  rw [if_pos (by simp)] at h
  exact (Option.some.inj h).symm
theorem IsNot.int {K : PySem.W.Frag} {H : Hp} {i : Int} (h : IsNot K H (.int i) "int") : False := by
  obtain ⟨t, ty, kt⟩ := h
  cases ty with
  | base b => cases b; exact absurd (kit_self kt) Bool.false_ne_true
theorem IsNot.str {K : PySem.W.Frag} {H : Hp} {i : Str} (h : IsNot K H (.str i) "str") : False := by
  obtain ⟨t, ty, kt⟩ := h
  cases ty with
  | base b => cases b; exact absurd (kit_self kt) Bool.false_ne_true
theorem IsNot.bl {K : PySem.W.Frag} {H : Hp} {i : Bool} (h : IsNot K H (.bl i) "int") : False := by
  obtain ⟨t, ty, kt⟩ := h
  cases ty with
  | base b =>
    cases b
    have e : PySem.W.kitOne K (.type "bool") (.type "int") = some true := kit_ty (by decide +kernel)
    rw [e] at kt
    cases kt
def spNum (K : PySem.W.Frag) : Sp := fun vs H Q _ => ∃ v lo hi, vs = [v, .int lo, .int hi] ∧ NumV K H v ∧ Q (.bl (numOk v lo hi)) H
theorem boot_isi : bootBuiltins "isinstance" = some (.builtin "isinstance") := by decide +kernel
end L2
namespace L2
open PySem PySem.Spec PyProof.Rows
theorem sIx_nat {n i d : Nat} (h : i ≤ n) : HT.sIx n d (some (i : Int)) = i := by
  rw [HT.sIx_nat]
  omega
theorem cutV_take {xs : List V} {i : Nat} (h : i ≤ xs.length) : cutV xs none (some (i : Int)) = xs.take i := by
  unfold cutV
  rw [sIx_nat h]
  simp [HT.sIx]
theorem cutV_drop {xs : List V} {i : Nat} (h : i ≤ xs.length) : cutV xs (some (i : Int)) none = xs.drop i := by
  unfold cutV
  rw [sIx_nat h]
  exact List.take_of_length_le (by simp [HT.sIx])
/-- the signs of a text up to a place, from a place on -/
theorem cutS_take {z : Str} {i : Nat} (h : i ≤ z.length) : cutS z none (some (i : Int)) = ⟨(z.cps.toList.take i).toArray⟩ := by
  unfold cutS
  rw [sIx_nat h]
  simp [HT.sIx]
theorem cutS_drop {z : Str} {i : Nat} (h : i ≤ z.length) : cutS z (some (i : Int)) none = ⟨(z.cps.toList.drop i).toArray⟩ := by
  unfold cutS
  rw [sIx_nat h]
  exact congrArg (fun l : List Nat => (⟨l.toArray⟩ : Str)) (List.take_of_length_le (by simp [HT.sIx, Str.length]))
theorem Same.rd {H H' : Hp} {a : Addr} {u : HO} (e : Same H H') (h : Rd H a u) : Rd H' a u := by
  rcases h with h | ⟨o, h⟩
  · exact .inl (e _ _ h)
  · exact .inr ⟨o, e _ _ h⟩
theorem Same.tup {K : PySem.W.Frag} {H H' : Hp} {a : Addr} {xs : List V} (e : Same H H') (h : SqT K H a xs) : SqT K H' a xs := h.imp (e.rd) id
theorem Same.new {H : Hp} {p : Addr} {o : HO} (h : H p = none) : Same H (upd H p o) := fun b u e => by
  rw [upd_ne (ne_of_none e h)]
  exact e
theorem Same.mut {H H' : Hp} {p : Addr} {o : HO} (e : Same H H') (h : H p = none) : Same H (upd H' p o) := fun b u q => by
  rw [upd_ne (ne_of_none q h)]
  exact e b u q
theorem Same.ty {K : PySem.W.Frag} {H H' : Hp} {v : V} {t : Value} (e : Same H H') (h : TyX K H v t) : TyX K H' v t := by
  cases h with
  | base b =>
    cases b with
    | non => exact .base .non
    | bl x => exact .base (.bl x)
    | int i => exact .base (.int i)
    | str x => exact .base (.str x)
    | flt x => exact .base (.flt x)
    | lst q => exact .base (.lst (e _ _ q))
    | frz q => exact .base (.frz (e _ _ q))
    | tup q => exact .base (.tup (e _ _ q))
    | dK q => exact .base (.dK (e _ _ q))
    | dT q => exact .base (.dT (e _ _ q))
    | ins q c h1 h2 h3 h4 => exact .base (.ins (e _ _ q) c h1 h2 h3 h4)
  | byt b => exact .byt b
  | set q => exact .set (e _ _ q)
  | kList q c => exact .kList q c
  | kTuple q c => exact .kTuple q c
  | kDict q c => exact .kDict q c
  | fTuple q => exact .fTuple (e _ _ q)
  | fDict q => exact .fDict (e _ _ q)
theorem Same.isNot {K : PySem.W.Frag} {H H' : Hp} {v : V} {n : String} (e : Same H H') (h : IsNot K H v n) : IsNot K H' v n := let ⟨t, ty, k⟩ := h; ⟨t, e.ty ty, k⟩
theorem Same.numV {K : PySem.W.Frag} {H H' : Hp} {v : V} (e : Same H H') (h : NumV K H v) : NumV K H' v := h.imp id fun h => h.imp id e.isNot
/-- over a list, numbered -/
theorem for_enumL {K : PySem.W.Frag} {a : Addr} {xs : List V} {g : TG} {tb : TS} {D : Ends} {σ : St} {H : Hp} (Pv : Nat → St → Hp → Prop) (h0 : Pv 0 σ H) (hl : ∀ i σ H, i ≤ xs.length → Pv i σ H → SqL K H a xs)
    (hs : ∀ i x σ H T, xs[i]? = some x → Pv i σ H → H T = none → g (.ref T) σ (upd H T (.tup [.int (i : Nat), x])) fun σ2 H2 => tb { D with nx := Pv (i + 1), ct := Pv (i + 1), bk := D.nx } σ2 H2) (hd : ∀ σ H, Pv xs.length σ H → D.nx σ H) : ForW (Ite K a) g tb D σ H :=
  forJ (J := Ite K a) (n := xs.length) Pv h0 (fun i σ H hi p => ⟨xs, xs[i], hl i σ H (Nat.le_of_lt hi) p, List.getElem?_eq_getElem hi⟩) (fun σ H p => ⟨xs, hl _ σ H (Nat.le_refl _) p, Nat.le_refl _⟩)
    (fun i v σ H H' hi p ⟨T, x, ev, hT, eH, hx⟩ => by subst ev eH; exact hs i x σ H T (hx xs (hl i σ H (Nat.le_of_lt hi) p)) p hT) hd
end L2
namespace L2
open PySem PySem.Spec PyProof.Rows
/-- numbers from 1 to 9, each once -/
def GoodNums (xs : List V) : Prop := ∀ i x, xs[i]? = some x → numOk x 1 9 = true ∧ inV x (xs.take i) = false
theorem numOk_int {x : V} {lo hi : Int} (h : numOk x lo hi = true) : ∃ i, x = .int i ∧ lo ≤ i ∧ i ≤ hi := by
  cases x with
  | int i => simp [numOk] at h; exact ⟨i, rfl, h.1, h.2⟩
  | _ => exact absurd h Bool.false_ne_true
/-- Takings' own look at a hand's numbers; cls: NoRule -/
def spGoodNums (K : PySem.W.Frag) (cls : Value) : Sp := fun vs H Q E => ∃ p v, vs = [p, v] ∧ ((IsNot K H v "list" ∧ E cls none H) ∨
  ∃ a xs, v = .ref a ∧ H a = some (.lst xs) ∧ xs.length ≤ 1000 ∧ (∀ x ∈ xs, NumV K H x) ∧
    (GoodNums xs → ∀ H' l, Same H H' → H l = none → H' l = some (.lst xs) → Q (.ref l) H') ∧ (¬ GoodNums xs → ∀ H', Same H H' → E cls none H'))
end L2
namespace L2
open PySem PySem.Spec PyProof.Rows
/-- what may be handed in as a hand's numbers: a list of such items, or none -/
def NArg (K : PySem.W.Frag) (H : Hp) (v : V) : Option (List V) → Prop
  | none => IsNot K H v "list"
  | some xs => ∃ a, v = .ref a ∧ H a = some (.lst xs) ∧ xs.length ≤ 1000 ∧ ∀ x ∈ xs, NumV K H x
def GoodN : Option (List V) → Prop
  | none => False
  | some xs => GoodNums xs
theorem Same.nArg {K : PySem.W.Frag} {H H' : Hp} {v : V} (e : Same H H') : ∀ {o : Option (List V)}, NArg K H v o → NArg K H' v o
  | none, h => e.isNot h
  | some _, ⟨a, ev, ha, hl, hn⟩ => ⟨a, ev, e _ _ ha, hl, fun x hx => e.numV (hn x hx)⟩
/-- good_numbers, as a caller sees it -/
theorem gn_use {K : PySem.W.Frag} {H : Hp} {cls : Value} {p v : V} {Q : VK} {E : XK} {o : Option (List V)} (hv : NArg K H v o) (kQ : ∀ xs, o = some xs → GoodNums xs → ∀ H' l, Same H H' → H l = none → H' l = some (.lst xs) → Q (.ref l) H') (kE : ¬ GoodN o → ∀ H', Same H H' → E cls none H') :
    spGoodNums K cls [p, v] H Q E := by
  cases o with
  | none => exact ⟨p, v, rfl, .inl ⟨hv, kE id H (Same.refl H)⟩⟩
  | some xs =>
    obtain ⟨a, ev, ha, hl, hn⟩ := hv
    exact ⟨p, v, rfl, .inr ⟨a, xs, ev, ha, hl, hn, kQ xs rfl, kE⟩⟩
/-- a rule of takings stands at p -/
def TakAt (C : Addr) (H : Hp) (p : Addr) (xs ys : List V) : Prop := ∃ dx t l m, H p = some (.ins C dx [("takings", .ref t)]) ∧ H t = some (.dK [(Sum.inr "up", .ref l), (Sum.inr "down", .ref m)]) ∧ H l = some (.lst xs) ∧ H m = some (.lst ys)
theorem TakAt.same {C : Addr} {H H' : Hp} {p : Addr} {xs ys : List V} (h : TakAt C H p xs ys) (e : Same H H') : TakAt C H' p xs ys := let ⟨dx, t, l, m, h1, h2, h3, h4⟩ := h; ⟨dx, t, l, m, e _ _ h1, e _ _ h2, e _ _ h3, e _ _ h4⟩
/-- made anew, behind the heap H -/
def TakNew (C : Addr) (H H' : Hp) (p : Addr) (xs ys : List V) : Prop := ∃ dx t l m, H t = none ∧ H l = none ∧ H m = none ∧ H' p = some (.ins C dx [("takings", .ref t)]) ∧ H' t = some (.dK [(Sum.inr "up", .ref l), (Sum.inr "down", .ref m)]) ∧ H' l = some (.lst xs) ∧ H' m = some (.lst ys)
theorem TakNew.at {C : Addr} {H H' H2 : Hp} {p : Addr} {xs ys : List V} (h : TakNew C H H' p xs ys) (k : ∀ b o, H' b = some o → (b = p ∨ H b = none) → H2 b = some o) : TakAt C H2 p xs ys :=
  let ⟨dx, t, l, m, t0, l0, m0, h1, h2, h3, h4⟩ := h; ⟨dx, t, l, m, k _ _ h1 (.inl rfl), k _ _ h2 (.inr t0), k _ _ h3 (.inr l0), k _ _ h4 (.inr m0)⟩
/-- all but what stands at p is as it was -/
def SameBut (p : Addr) (H H' : Hp) : Prop := ∀ b o, H b = some o → b ≠ p → H' b = some o
def spTakInit (K : PySem.W.Frag) (C : Addr) (cls : Value) : Sp := fun vs H Q E => ∃ p dx u d o1 o2, vs = [.ref p, u, d] ∧ H p = some (.ins C dx []) ∧ NArg K H u o1 ∧ NArg K H d o2 ∧
  (∀ xs ys, o1 = some xs → o2 = some ys → GoodNums xs → GoodNums ys → ∀ H', TakNew C H H' p xs ys → SameBut p H H' → Q .non H') ∧ (¬ (GoodN o1 ∧ GoodN o2) → ∀ H', Same H H' → E cls none H')
theorem ne_upd {H : Hp} {p q : Addr} {o : HO} (h : H p = some o) (hq : H q = none) : p ≠ q := ne_of_none h hq
end L2
namespace L2
open PySem PySem.Spec PyProof.Rows
def BoardV (K : PySem.W.Frag) (H : Hp) (v : V) : Prop := (∃ z, v = .str z ∧ z.length ≤ 1000) ∨ IsNot K H v "str"
theorem Same.boardV {K : PySem.W.Frag} {H H' : Hp} {v : V} (e : Same H H') (h : BoardV K H v) : BoardV K H' v := h.imp id e.isNot
/-- is_board's promise, of a rule that stands as O tells -/
def spIsB (K : PySem.W.Frag) (O : Hp → Addr → Prop) (good : V → Bool) : Sp := fun vs H Q _ => ∃ p v, vs = [.ref p, v] ∧ O H p ∧ BoardV K H v ∧ ∀ H', Same H H' → Q (.bl (good v)) H'
def handS (u : Bool) : Str := if u = true then "up" else "down"
/-- changed's -/
def spChg (O : Hp → Addr → Prop) (good : V → Bool) (chg : Bool → Str → List Str) : Sp := fun vs H Q _ => ∃ p z u, vs = [.ref p, .str z, .str (handS u)] ∧ O H p ∧ good (.str z) = true ∧
  ∀ H' l, Same H H' → H l = none → H' l = some (.lst ((chg u z).map V.str)) → Q (.ref l) H'
def FIGS : List Nat := ("0123456789" : Str).cps.toList
def goodT : V → Bool
  | .str z => decide (z.length ≤ 5) && z.cps.toList.all fun c => decide (c ∈ FIGS)
  | _ => false
def digit (c : Nat) : Int := (c : Int) - 48
/-- the text with another thing at one place -/
def midT (z : Str) (i : Nat) (m : Str) : Str := cutS z none (some (i : Int)) ++ m ++ cutS z (some ((i : Int) + 1)) none
def figT (k : Int) : Str := ⟨#[48 + k.toNat]⟩
def turnT (nums : List Int) (z : Str) (i : Nat) : List Str := (nums.filter fun n => decide (n ≤ digit (z.cps.toList.getD i 0))).map fun n => midT z i (figT (digit (z.cps.toList.getD i 0) - n))
def genT (nums : List Int) (z : Str) (m : Nat) : List Str := (List.range m).flatMap (turnT nums z)
theorem genT_succ (nums : List Int) (z : Str) (m : Nat) : genT nums z (m + 1) = genT nums z m ++ turnT nums z m := by
  unfold genT
  rw [List.range_succ, List.flatMap_append, List.flatMap_singleton]
theorem turnT_len (nums : List Int) (z : Str) (i : Nat) : (turnT nums z i).length ≤ nums.length := by
  unfold turnT
  rw [List.length_map]
  exact List.length_filter_le _ _
theorem genT_len (nums : List Int) (z : Str) : ∀ m, (genT nums z m).length ≤ m * nums.length
  | 0 => by simp [genT]
  | m + 1 => by
    rw [genT_succ, List.length_append, Nat.succ_mul]
    have := genT_len nums z m
    have := turnT_len nums z m
    omega
theorem fig_mem {c : Nat} (h : c ∈ FIGS) : 48 ≤ c ∧ c ≤ 57 := by
  have e : FIGS = [48, 49, 50, 51, 52, 53, 54, 55, 56, 57] := by decide +kernel
  rw [e] at h
  simp at h
  omega
theorem fig_int {c : Nat} (h : c ∈ FIGS) : PySem.intText? ⟨#[c]⟩ = some (digit c) := by
  obtain ⟨h1, h2⟩ := fig_mem h
  obtain rfl | rfl | rfl | rfl | rfl | rfl | rfl | rfl | rfl | rfl : c = 48 ∨ c = 49 ∨ c = 50 ∨ c = 51 ∨ c = 52 ∨ c = 53 ∨ c = 54 ∨ c = 55 ∨ c = 56 ∨ c = 57 := by omega
  all_goals decide +kernel
theorem fig_str {k : Int} (h0 : 0 ≤ k) (h9 : k ≤ 9) : Str.ofString (toString k) = figT k := by
  obtain rfl | rfl | rfl | rfl | rfl | rfl | rfl | rfl | rfl | rfl : k = 0 ∨ k = 1 ∨ k = 2 ∨ k = 3 ∨ k = 4 ∨ k = 5 ∨ k = 6 ∨ k = 7 ∨ k = 8 ∨ k = 9 := by omega
  all_goals decide +kernel
end L2
namespace L2
open PySem PySem.Spec PyProof.Rows
theorem cps_at {z : Str} {i c : Nat} (h : z.cps[i]? = some c) : z.cps.toList[i]? = some c := by rw [Array.getElem?_toList]; exact h
theorem take_snoc {α : Type} {l : List α} {i : Nat} {x : α} (h : l[i]? = some x) : l.take (i + 1) = l.take i ++ [x] := by rw [List.take_add_one, h]; rfl
theorem cps_take (z : Str) : z.cps.toList.take z.cps.size = z.cps.toList := by rw [← Array.length_toList, List.take_length]
theorem cps_len (z : Str) : z.cps.toList.length = z.length := by simp [Str.length]
theorem all_map_id {α : Type} (p : α → Bool) (l : List α) : (l.map p).all id = l.all p := by rw [List.all_map]; rfl
end L2
namespace L2
open PySem PySem.Spec PyProof.Rows
theorem goodT_str {z : Str} (h : goodT (.str z) = true) : z.length ≤ 5 ∧ ∀ (i c : Nat), z.cps[i]? = some c → c ∈ FIGS := by
  have h' : (decide (z.length ≤ 5) && z.cps.toList.all fun c => decide (c ∈ FIGS)) = true := h
  rw [Bool.and_eq_true, List.all_eq_true] at h'
  exact ⟨of_decide_eq_true h'.1, fun i c hc => of_decide_eq_true (h'.2 c (List.mem_of_getElem? (cps_at hc)))⟩
theorem ints_at {ns : List Int} {i : Nat} {v : V} (h : (ns.map V.int)[i]? = some v) : ∃ n, ns[i]? = some n ∧ v = .int n := by
  rw [List.getElem?_map] at h
  cases e : ns[i]? with
  | none => rw [e] at h; cases h
  | some n => rw [e] at h; exact ⟨n, rfl, (Option.some.inj h).symm⟩
end L2
namespace L2
open PySem PySem.Spec PyProof.Rows
theorem str_len_app (a b : Str) : (a ++ b).length = a.length + b.length := by
  show (a.cps ++ b.cps).size = _
  rw [Array.size_append]; rfl
theorem figT_len (k : Int) : (figT k).length = 1 := rfl
end L2
namespace L2
open PySem PySem.Spec PyProof.Rows
def HandV (K : PySem.W.Frag) (H : Hp) (v : V) : Prop := (∃ z, v = .str z) ∨ IsNot K H v "str"
theorem Same.handV {K : PySem.W.Frag} {H H' : Hp} {v : V} (e : Same H H') (h : HandV K H v) : HandV K H' v := h.imp id e.isNot
/-- ys: the texts of xs, each once, in order -/
def SortedOf (xs ys : List Str) : Prop := sortedS ys = true ∧ ys.Nodup ∧ ∀ t, t ∈ ys ↔ t ∈ xs
/-- moves' promise -/
def spMoves (K : PySem.W.Frag) (O : Hp → Addr → Prop) (good : V → Bool) (chg : Bool → Str → List Str) (cB cH : Value) : Sp := fun vs H Q E => ∃ p v h, vs = [.ref p, v, h] ∧ O H p ∧ BoardV K H v ∧ HandV K H h ∧
  (good v = false → ∀ H', Same H H' → E cB none H') ∧ (good v = true → (∀ u, h ≠ .str (handS u)) → ∀ H', Same H H' → E cH none H') ∧
  (∀ z u, v = .str z → good v = true → h = .str (handS u) → ∀ H' l ys, Same H H' → H l = none → SortedOf (chg u z) ys → H' l = some (.lst (ys.map V.str)) → Q (.ref l) H')
/-- a turned rule stands at p, what it turns stands as O tells -/
def TurAt (C : Addr) (O : Hp → Addr → Prop) (H : Hp) (p : Addr) : Prop := ∃ dx q, H p = some (.ins C dx [("inner", .ref q)]) ∧ O H q
def spTurInit (K : PySem.W.Frag) (C CR : Addr) (cls : Value) : Sp := fun vs H Q E => ∃ p dx v t b, vs = [.ref p, v] ∧ H p = some (.ins C dx []) ∧ TyX K H v t ∧ PySem.W.kitOne K t (.ref CR) = some b ∧
  (b = true → Q .non (upd H p (.ins C dx [("inner", v)]))) ∧ (b = false → E cls none H)
theorem inV_hands (z : Str) : inV (.str z) [.str "up", .str "down"] = true ↔ ∃ u, z = handS u := by
  simp only [inV, List.any_cons, List.any_nil, Bool.or_false, Bool.or_eq_true]
  constructor
  · rintro (h | h)
    · exact ⟨true, (beq_iff_eq.mp (show (("up" : Str) == z) = true from h)).symm⟩
    · exact ⟨false, (beq_iff_eq.mp (show (("down" : Str) == z) = true from h)).symm⟩
  · rintro ⟨u, rfl⟩
    cases u
    · exact .inr (beq_iff_eq.mpr rfl)
    · exact .inl (beq_iff_eq.mpr rfl)
theorem inr_map (xs : List Str) : (xs.map (Sum.inr : Str → Key)).map kV = xs.map V.str := by rw [List.map_map]; rfl
theorem sortedOf_of {xs ys : List Str} {ks : List Key} (hs : sortedS ys = true) (hp : (ys.map Sum.inr : List Key).Perm ks) (nd : ks.Nodup) (hm : ∀ k, k ∈ ks ↔ k ∈ xs.map (Sum.inr : Str → Key)) : SortedOf xs ys := by
  have inj : ∀ {l : List Str} {t : Str}, (Sum.inr t : Key) ∈ l.map Sum.inr ↔ t ∈ l := fun {l t} => by
    rw [List.mem_map]
    exact ⟨fun ⟨x, hx, e⟩ => by cases e; exact hx, fun h => ⟨t, h, rfl⟩⟩
  refine ⟨hs, ?_, fun t => ?_⟩
  · exact List.Pairwise.of_map (Sum.inr : Str → Key) (fun a b h e => h (e ▸ rfl)) (hp.nodup_iff.mpr nd)
  · rw [← inj (l := ys), hp.mem_iff, hm, inj]
end L2
namespace L2
open PySem PySem.Spec PyProof.Rows
/-- the laws' own draws: a list of one number, moved on -/
structure LawNext (vs : List V) (H : Hp) (Q : VK) (E : XK) : Prop where
  h : ∃ (a : Addr) (s m : Int), vs = [.ref a, .int m] ∧ H a = some (.lst [.int s]) ∧ 0 ≤ s ∧ s < 2147483648 ∧ 1 ≤ m ∧ ∀ s' r, 0 ≤ s' → s' < 2147483648 → 0 ≤ r → r < m → Q (.int r) (upd H a (.lst [.int s']))
def spLawNext : Sp := LawNext
def spLawCell (K : PySem.W.Frag) : Sp := fun vs H Q _ => ∃ (a : Addr) (k : Int) (ns : List Int), vs = [.ref a, .int k] ∧ SqL K H a (ns.map V.int) ∧ 0 ≤ k ∧ ns.length ≤ 63 ∧ Q (.int (ns.getD k.toNat 0)) H
def spLawState : Sp := fun vs H Q _ => ∃ (c k : Int), vs = [.int c, .int k] ∧ 0 ≤ k ∧ k ≤ 63 ∧ ∀ s l, 0 ≤ s → s < 2147483648 → H l = none → Q (.ref l) (upd H l (.lst [.int s]))
/-- an exception that was caught, as the laws tell it -/
def spLawTold (K : PySem.W.Frag) (O : Hp → Addr → Prop) (good : V → Bool) (chg : Bool → Str → List Str) : Sp := fun vs H Q _ => ∃ p v h, vs = [.ref p, v, h] ∧ O H p ∧ BoardV K H v ∧ HandV K H h ∧
  (good v = false → ∀ H', Same H H' → Q (.str "NoBoard") H') ∧ (good v = true → (∀ u, h ≠ .str (handS u)) → ∀ H', Same H H' → Q (.str "NoHand") H') ∧
  (∀ z u, v = .str z → good v = true → h = .str (handS u) → ∀ H' l ys, Same H H' → H l = none → SortedOf (chg u z) ys → H' l = some (.lst (ys.map V.str)) → Q (.ref l) H')
end L2
namespace L2
open PySem PySem.Spec PyProof.Rows
/-- numbers from 1 to 9, rising -/
def Rising9 (ns : List Int) : Prop := ns.Pairwise (· < ·) ∧ ∀ n ∈ ns, 1 ≤ n ∧ n ≤ 9
def spLawNumbers : Sp := fun vs H Q _ => ∃ c : Int, vs = [.int c] ∧ ∀ ns H' l, Rising9 ns → ns.length ≤ 9 → Same H H' → H l = none → H' l = some (.lst (ns.map V.int)) → Q (.ref l) H'
/-- the law's own moves of takings -/
def spLawMovesT (K : PySem.W.Frag) : Sp := fun vs H Q _ => ∃ (a : Addr) (z : Str) (ns : List Int), vs = [.ref a, .str z] ∧ SqL K H a (ns.map V.int) ∧ ns.length ≤ 9 ∧ (∀ n ∈ ns, 1 ≤ n) ∧ goodT (.str z) = true ∧
  ∀ H' l ys, Same H H' → H l = none → SortedOf (genT ns z z.length) ys → H' l = some (.lst (ys.map V.str)) → Q (.ref l) H'
theorem mem_put {kvs : List (Key × V)} {k j : Key} {v : V} : j ∈ (putK kvs k v).map (·.1) ↔ j = k ∨ j ∈ kvs.map (·.1) := by
  have h : ∀ (l : List (Key × V)) (j : Key), j ∈ l.map (·.1) ↔ (valV l j).isSome = true := fun l j => by
    rw [← valV_any, List.any_eq_true]
    constructor
    · intro h
      obtain ⟨p, hp, e⟩ := List.mem_map.mp h
      exact ⟨p, hp, decide_eq_true e⟩
    · rintro ⟨p, hp, e⟩
      exact List.mem_map.mpr ⟨p, hp, of_decide_eq_true e⟩
  rw [h, h, valV_put]
  by_cases e : j = k
  · simp [e]
  · simp [e]
theorem nd_put {kvs : List (Key × V)} (k : Key) (v : V) (nd : (kvs.map (·.1)).Nodup) : ((putK kvs k v).map (·.1)).Nodup := by
  cases e : valV kvs k with
  | none => exact nd_putK v nd e
  | some x =>
    have : (putK kvs k v).map (·.1) = kvs.map (·.1) := by
      unfold putK
      have ha : (kvs.any fun kv => decide (kv.1 = k)) = true := by rw [valV_any, e]; rfl
      rw [if_pos ha, List.map_map]
      apply List.map_congr_left
      intro p _
      by_cases h : p.1 = k <;> simp [h]
    rw [this]
    exact nd
theorem keys_perm {α : Type} {l m : List α} (h1 : l.Nodup) (h2 : m.Nodup) (h : ∀ x, x ∈ l ↔ x ∈ m) : l.Perm m := (List.perm_ext_iff_of_nodup h1 h2).mpr h
end L2
namespace L2
open PySem PySem.Spec PyProof.Rows
theorem fig_occ {c : Nat} (h : c ∈ FIGS) : Builtin.Str.occurrences ("0123456789" : Str) ⟨#[c]⟩ 0 ("0123456789" : Str).length 1 = [c - 48] := by
  obtain ⟨h1, h2⟩ := fig_mem h
  obtain rfl | rfl | rfl | rfl | rfl | rfl | rfl | rfl | rfl | rfl : c = 48 ∨ c = 49 ∨ c = 50 ∨ c = 51 ∨ c = 52 ∨ c = 53 ∨ c = 54 ∨ c = 55 ∨ c = 56 ∨ c = 57 := by omega
  all_goals decide +kernel
theorem fig_at {k : Int} (h0 : 0 ≤ k) (h9 : k ≤ 9) : atI ("0123456789" : Str).cps.toList k = some (48 + k.toNat) := by
  obtain rfl | rfl | rfl | rfl | rfl | rfl | rfl | rfl | rfl | rfl : k = 0 ∨ k = 1 ∨ k = 2 ∨ k = 3 ∨ k = 4 ∨ k = 5 ∨ k = 6 ∨ k = 7 ∨ k = 8 ∨ k = 9 := by omega
  all_goals decide +kernel
/-- a dict whose keys are just the texts of xs -/
def KeysOf (kvs : List (Key × V)) (xs : List Str) : Prop := (kvs.map (·.1)).Nodup ∧ ∀ k, k ∈ kvs.map (·.1) ↔ ∃ t ∈ xs, k = Sum.inr t
theorem KeysOf.nil : KeysOf [] [] := ⟨List.nodup_nil, fun k => by simp⟩
theorem KeysOf.put {kvs : List (Key × V)} {xs : List Str} (h : KeysOf kvs xs) (t : Str) (v : V) : KeysOf (putK kvs (Sum.inr t) v) (xs ++ [t]) := by
  refine ⟨nd_put _ _ h.1, fun k => ?_⟩
  rw [mem_put, h.2]
  constructor
  · rintro (e | ⟨x, hx, e⟩)
    · exact ⟨t, by simp, e⟩
    · exact ⟨x, by simp [hx], e⟩
  · rintro ⟨x, hx, e⟩
    rcases List.mem_append.mp hx with h | h
    · exact .inr ⟨x, h, e⟩
    · rw [List.mem_singleton.mp h] at e
      exact .inl e
theorem KeysOf.list {kvs : List (Key × V)} {xs : List Str} (h : KeysOf kvs xs) : ∃ ts : List Str, (kvs.map fun kv => kV kv.1) = ts.map V.str ∧ ts.Nodup ∧ (∀ t, t ∈ ts ↔ t ∈ xs) ∧ ts.length = kvs.length := by
  obtain ⟨ts, e⟩ := SG.all_inr (kvs.map (·.1)) fun k hk => let ⟨t, _, e⟩ := (h.2 k).mp hk; ⟨t, e⟩
  refine ⟨ts, ?_, ?_, fun t => ?_, ?_⟩
  · have : (kvs.map fun kv => kV kv.1) = (kvs.map (·.1)).map kV := by rw [List.map_map]; rfl
    rw [this, e, inr_map]
  · exact List.Pairwise.of_map (Sum.inr : Str → Key) (fun a b h e => h (e ▸ rfl)) (e ▸ h.1)
  · constructor
    · intro ht
      obtain ⟨x, hx, ex⟩ := (h.2 (Sum.inr t)).mp (e ▸ List.mem_map.mpr ⟨t, ht, rfl⟩)
      cases ex
      exact hx
    · intro ht
      have q := (h.2 (Sum.inr t)).mpr ⟨t, ht, rfl⟩
      rw [e] at q
      obtain ⟨x, hx, ex⟩ := List.mem_map.mp q
      cases ex
      exact hx
  · have := congrArg List.length e
    simpa using this.symm
theorem sortedOf_perm {ts ys xs : List Str} (hs : sortedS ys = true) (hp : ys.Perm ts) (nd : ts.Nodup) (hm : ∀ t, t ∈ ts ↔ t ∈ xs) : SortedOf xs ys := ⟨hs, hp.nodup_iff.mpr nd, fun t => (hp.mem_iff).trans (hm t)⟩
end L2
namespace L2
open PySem PySem.Spec PyProof.Rows
theorem FnOk.all {P : Program} {w : World} {K : PySem.W.Frag} {mg : Str → Option Value} {base : Heap} {CX : CXT} {k : Nat} {f : Addr} {fd : FuncData} {ps : List Str} {ι : Type} {ok : ι → Prop} {sp : ι → Sp}
    (F : ∀ i, ok i → FnOk P w K mg base CX k f fd ps (sp i)) : FnOk P w K mg base CX k f fd ps (fun vs H Q E => ∃ i, ok i ∧ sp i vs H Q E) :=
  ⟨fun vs H Q E ⟨i, h, q⟩ => (F i h).len vs H Q E q, fun A outer s H args us vs Q E hr he hb hv ⟨i, h, q⟩ => (F i h).run A outer s H args us vs Q E hr he hb hv q⟩
theorem dp_strs {K : PySem.W.Frag} {H : Hp} : ∀ ys : List Str, DpAll K H (ys.map V.str) (ys.map PyData.str)
  | [] => .nil
  | y :: ys => .cons (.str y) (dp_strs ys)
theorem dp_ints {K : PySem.W.Frag} {H : Hp} : ∀ ys : List Int, DpAll K H (ys.map V.int) (ys.map PyData.int)
  | [] => .nil
  | y :: ys => .cons (.int y) (dp_ints ys)
theorem lay_str {x : Str} (h : ∀ c ∈ x.cps.toList, c < 0x110000) : PyData.canLay0 (.str x) = true := by
  simp only [PyData.canLay0]
  show x.cps.all (· < 0x110000) = true
  rw [← Array.all_toList, List.all_eq_true]
  exact fun c hc => decide_eq_true (h c hc)
theorem lay_strs : ∀ ys : List Str, (∀ y ∈ ys, PyData.canLay0 (.str y) = true) → PyData.canLayAll0 (ys.map PyData.str) = true
  | [], _ => by simp [PyData.canLayAll0]
  | y :: ys, h => by
    simp only [List.map_cons, PyData.canLayAll0, h y List.mem_cons_self, lay_strs ys fun z hz => h z (List.mem_cons_of_mem _ hz), Bool.and_true]
theorem depth_strs : ∀ ys : List Str, PyData.depthAll (ys.map PyData.str) = 0
  | [] => by simp [PyData.depthAll]
  | y :: ys => by simp [PyData.depthAll, PyData.depth, depth_strs ys]
theorem lay_ints : ∀ ys : List Int, PyData.canLayAll0 (ys.map PyData.int) = true
  | [] => by simp [PyData.canLayAll0]
  | y :: ys => by simp [PyData.canLayAll0, PyData.canLay0, lay_ints ys]
theorem depth_ints : ∀ ys : List Int, PyData.depthAll (ys.map PyData.int) = 0
  | [] => by simp [PyData.depthAll]
  | y :: ys => by simp [PyData.depthAll, PyData.depth, depth_ints ys]
theorem shaped_strs {ys : List Str} (h : ∀ y ∈ ys, PyData.canLay0 (.str y) = true) : SeqAt.shaped (.list (ys.map PyData.str)) = true := by
  simp [SeqAt.shaped, PyData.canLay0, PyData.depth, lay_strs ys h, depth_strs]
theorem shaped_ints (ys : List Int) : SeqAt.shaped (.list (ys.map PyData.int)) = true := by
  simp [SeqAt.shaped, PyData.canLay0, PyData.depth, lay_ints ys, depth_ints]
theorem shaped_str {y : Str} (h : PyData.canLay0 (.str y) = true) : SeqAt.shaped (.str y) = true := by
  simp [SeqAt.shaped, h, PyData.depth]
theorem eqv_strs : ∀ ys : List Str, PyData.eqvAll (ys.map PyData.str) (ys.map PyData.str) = true
  | [] => by simp [PyData.eqvAll]
  | y :: ys => by simp [PyData.eqvAll, PyData.eqv, eqv_strs ys]
def leS (a b : Str) : Prop := a.cps.toList ≤ b.cps.toList
theorem risingS_all : ∀ (l : List Str) (p : Str), risingS p l = true → (∀ x ∈ l, leS p x) ∧ l.Pairwise leS
  | [], p, _ => ⟨(fun x h => by cases h), List.Pairwise.nil⟩
  | x :: r, p, h => by
    have h' : (!PySem.Spec.ltCps x.cps.toList p.cps.toList && risingS x r) = true := h
    rw [Bool.and_eq_true, PyProof.Rows.ltCps_eq] at h'
    have le : leS p x := List.not_lt.mp (by
      have q := h'.1
      intro z
      rw [decide_eq_true z] at q
      cases q)
    obtain ⟨h1, h2⟩ := risingS_all r x h'.2
    refine ⟨fun y hy => ?_, List.pairwise_cons.mpr ⟨h1, h2⟩⟩
    rcases List.mem_cons.mp hy with e | e
    · rw [e]; exact le
    · exact List.le_trans le (h1 y e)
theorem sortedS_all : ∀ l : List Str, sortedS l = true → l.Pairwise leS
  | [], _ => List.Pairwise.nil
  | x :: r, h => let ⟨h1, h2⟩ := risingS_all r x h; List.pairwise_cons.mpr ⟨h1, h2⟩
theorem str_ext {a b : Str} (h : a.cps.toList = b.cps.toList) : a = b := by
  cases a; cases b
  exact congrArg Str.mk (Array.toList_inj.mp h)
/-- two rows of the same texts, in order, each once, are one -/
theorem sortedOf_uniq {xs ys zs : List Str} (h : SortedOf xs ys) (h' : SortedOf xs zs) : ys = zs := by
  have hp : ys.Perm zs := keys_perm h.2.1 h'.2.1 fun x => (h.2.2 x).trans (h'.2.2 x).symm
  exact hp.eq_of_pairwise (le := leS) (fun a b _ _ h1 h2 => str_ext (List.le_antisymm h1 h2)) (sortedS_all _ h.1) (sortedS_all _ h'.1)
theorem cutS_mem {z : Str} {lo hi : Option Int} {c : Nat} (h : c ∈ (cutS z lo hi).cps.toList) : c ∈ z.cps.toList := by
  unfold cutS at h
  exact List.mem_of_mem_drop (List.mem_of_mem_take (by simpa using h))
theorem app_mem {a b : Str} {c : Nat} (h : c ∈ (a ++ b).cps.toList) : c ∈ a.cps.toList ∨ c ∈ b.cps.toList := by
  have e : (a ++ b).cps.toList = a.cps.toList ++ b.cps.toList := by
    show (a.cps ++ b.cps).toList = _
    simp
  rw [e] at h
  exact List.mem_append.mp h
theorem genT_lay {nums : List Int} {z : Str} {m : Nat} {t : Str} (hz : goodT (.str z) = true) (h1 : ∀ n ∈ nums, 1 ≤ n) (hm : m ≤ z.length) (ht : t ∈ genT nums z m) : PyData.canLay0 (.str t) = true := by
  obtain ⟨_, hf⟩ := goodT_str hz
  unfold genT at ht
  obtain ⟨i, hi, ht⟩ := List.mem_flatMap.mp ht
  unfold turnT at ht
  obtain ⟨n, hn, rfl⟩ := List.mem_map.mp ht
  have hn1 := h1 n ((List.mem_filter.mp hn).1)
  have hi' : i < z.cps.size := Nat.lt_of_lt_of_le (List.mem_range.mp hi) hm
  have hcz : ∀ c ∈ z.cps.toList, c < 0x110000 := fun c hc => by
    obtain ⟨j, hj⟩ := List.mem_iff_getElem?.mp hc
    have := fig_mem (hf j c (by rw [← Array.getElem?_toList]; exact hj))
    omega
  have hc := fig_mem (hf i (z.cps.toList.getD i 0) (by rw [List.getD_eq_getElem?_getD, Array.getElem?_toList, Array.getElem?_eq_getElem hi']; rfl))
  refine lay_str fun c hc' => ?_
  unfold midT at hc'
  rcases app_mem hc' with h | h
  · rcases app_mem h with h | h
    · exact hcz c (cutS_mem h)
    · have e : c = 48 + (digit (z.cps.toList.getD i 0) - n).toNat := by simpa [figT] using h
      have : digit (z.cps.toList.getD i 0) - n ≤ 9 := by unfold digit; omega
      omega
  · exact hcz c (cutS_mem h)
end L2
namespace L2
open PySem PySem.Spec PyProof.Rows
theorem goodNums_ints {ns : List Int} (nd : ns.Nodup) (h : ∀ n ∈ ns, 1 ≤ n ∧ n ≤ 9) : GoodNums (ns.map V.int) := fun i x hx => by
  obtain ⟨n, hn, rfl⟩ := ints_at hx
  obtain ⟨h1, h9⟩ := h n (List.mem_of_getElem? hn)
  refine ⟨by simp [numOk, h1, h9], ?_⟩
  rw [← List.map_take]
  cases e : inV (.int n) ((ns.take i).map V.int) with
  | false => rfl
  | true =>
    unfold inV at e
    obtain ⟨y, hy, q⟩ := List.any_eq_true.mp e
    obtain ⟨m, hm, rfl⟩ := List.mem_map.mp hy
    have em : m = n := beq_iff_eq.mp (show (m == n) = true from q)
    subst em
    obtain ⟨j, hj⟩ := List.mem_iff_getElem?.mp hm
    rw [List.getElem?_take] at hj
    split at hj
    · rename_i hji
      exact absurd (nd_ix nd hj hn) (by omega)
    · cases hj
theorem numV_ints {K : PySem.W.Frag} {H : Hp} {ns : List Int} : ∀ x ∈ ns.map V.int, NumV K H x := fun x hx => by
  obtain ⟨n, _, rfl⟩ := List.mem_map.mp hx
  exact .inl ⟨n, rfl⟩
end L2
namespace L2
open PySem PySem.Spec PyProof.Rows
theorem joinL_nil : ∀ ps : List (List Nat), (TL.joinL [] ps) = ps.flatten
  | [] => rfl
  | [p] => by simp [TL.joinL]
  | p :: q :: r => by
    show p ++ ([] ++ TL.joinL [] (q :: r)) = _
    rw [joinL_nil (q :: r)]
    simp
/-- texts glued together -/
theorem join_toList (ys : List Str) : (Txt.join ("" : Str) ys).cps.toList = (ys.map fun y => y.cps.toList).flatten := by
  have h := TL.tl_join ("" : Str) ys
  rw [← TL.join_eq] at h
  exact h.trans (joinL_nil _)
theorem join_signs (cs : List Nat) : (Txt.join ("" : Str) (cs.map fun c => (⟨#[c]⟩ : Str))).cps.toList = cs := by
  rw [join_toList, List.map_map]
  induction cs with
  | nil => rfl
  | cons c r ih => simpa using ih
end L2
namespace L2
open PySem PySem.Spec PyProof.Rows
/-- a list that holds the figure mill's number, over what stood before it -/
def St1 (H0 H : Hp) (a : Addr) : Prop := H0 a = none ∧ Same H0 H ∧ ∃ s : Int, H a = some (.lst [.int s]) ∧ 0 ≤ s ∧ s < 2147483648
theorem St1.mk {H0 H : Hp} {a : Addr} {s : Int} (n : H a = none) (e : Same H0 H) (z0 : 0 ≤ s) (z1 : s < 2147483648) : St1 H0 (upd H a (.lst [.int s])) a :=
  ⟨e.free n, e.mut (e.free n), s, upd_same, z0, z1⟩
theorem St1.same {H0 H H' : Hp} {a : Addr} (h : St1 H0 H a) (e : Same H H') : St1 H0 H' a := let ⟨n, e0, s, hs, z⟩ := h; ⟨n, e0.trans e, s, e _ _ hs, z⟩
theorem St1.new {H0 H : Hp} {a p : Addr} {o : HO} (h : St1 H0 H a) (n : H p = none) : St1 H0 (upd H p o) a := h.same (Same.new n)
theorem St1.mut {H0 H : Hp} {a p : Addr} {o : HO} (h : St1 H0 H a) (n : H0 p = none) (hp : p ≠ a) : St1 H0 (upd H p o) a := let ⟨n', e0, s, hs, z⟩ := h; ⟨n', e0.mut n, s, by rw [upd_ne (Ne.symm hp)]; exact hs, z⟩
theorem St1.next {H0 H : Hp} {a : Addr} {m : Int} {Q : VK} {E : XK} (h : St1 H0 H a) (hm : 1 ≤ m) (k : ∀ r H', 0 ≤ r → r < m → St1 H0 H' a → (∀ b, b ≠ a → H' b = H b) → Q (.int r) H') : spLawNext [.ref a, .int m] H Q E := by
  obtain ⟨n, e, s, hs, z0, z1⟩ := h
  exact ⟨a, s, m, rfl, hs, z0, z1, hm, fun s' r z0' z1' r0 r1 => k r _ r0 r1 ⟨n, e.mut n, s', upd_same, z0', z1'⟩ fun b hb => upd_ne hb⟩
theorem St1.away {H0 H : Hp} {a p : Addr} (h : St1 H0 H a) (n : H p = none) : p ≠ a := fun z => by
  obtain ⟨_, _, s, hs, _⟩ := h
  rw [z, hs] at n
  cases n
/-- a board as the laws draw it: it does not hang on the figure mill -/
def BV (a : Addr) (H : Hp) (v : V) : Prop := (∃ z, v = .str z ∧ z.length ≤ 1000) ∨ v = .non ∨ (∃ i, v = .int i) ∨ ∃ q xs, q ≠ a ∧ v = .ref q ∧ H q = some (.lst xs)
theorem BV.away {a : Addr} {H H' : Hp} {v : V} (h : BV a H v) (e : ∀ b, b ≠ a → H' b = H b) : BV a H' v := by
  rcases h with h | h | h | ⟨q, xs, n, rfl, hq⟩
  · exact .inl h
  · exact .inr (.inl h)
  · exact .inr (.inr (.inl h))
  · exact .inr (.inr (.inr ⟨q, xs, n, rfl, (e q n).trans hq⟩))
theorem BV.same {a : Addr} {H H' : Hp} {v : V} (h : BV a H v) (e : Same H H') : BV a H' v := by
  rcases h with h | h | h | ⟨q, xs, n, rfl, hq⟩
  · exact .inl h
  · exact .inr (.inl h)
  · exact .inr (.inr (.inl h))
  · exact .inr (.inr (.inr ⟨q, xs, n, rfl, e _ _ hq⟩))
theorem BV.board {K : PySem.W.Frag} {a : Addr} {H : Hp} {v : V} (h : BV a H v) : BoardV K H v := by
  rcases h with h | rfl | ⟨i, rfl⟩ | ⟨q, xs, n, rfl, hq⟩
  · exact .inl h
  · exact .inr ⟨_, .base .non, rfl⟩
  · exact .inr ⟨_, .base (.int i), rfl⟩
  · exact .inr ⟨_, .base (.lst hq), rfl⟩
end L2
namespace L2
open PySem PySem.Spec PyProof.Rows
/-- what the laws look for: a mark, or the sorted boards -/
def Due (good : V → Bool) (ch : Bool → Str → List Str) (H : Hp) (v h d : V) : Prop :=
  (good v = false ∧ d = .str "NoBoard") ∨ (good v = true ∧ (∀ u, h ≠ .str (handS u)) ∧ d = .str "NoHand") ∨
  ∃ z u l ys, v = .str z ∧ good v = true ∧ h = .str (handS u) ∧ d = .ref l ∧ H l = some (.lst (ys.map V.str)) ∧ SortedOf (ch u z) ys
theorem handS_inj {u u' : Bool} (h : handS u = handS u') : u = u' := by
  cases u <;> cases u' <;> first | rfl | exact absurd h (by decide)
theorem handS_str {u u' : Bool} (h : V.str (handS u) = V.str (handS u')) : u = u' := handS_inj (V.str.inj h)
theorem Due.same {good : V → Bool} {ch : Bool → Str → List Str} {H H' : Hp} {v h d : V} (D : Due good ch H v h d) (e : Same H H') : Due good ch H' v h d :=
  D.imp id fun D => D.imp id fun ⟨z, u, l, ys, a, b, c, q, hl, so⟩ => ⟨z, u, l, ys, a, b, c, q, e _ _ hl, so⟩
theorem Due.flip {good : V → Bool} {ch : Bool → Str → List Str} {H : Hp} {v d : V} {u : Bool} (D : Due good (fun u z => ch (!u) z) H v (.str (handS (!u))) d) : Due good ch H v (.str (handS u)) d := by
  rcases D with D | ⟨_, n, _⟩ | ⟨z, u', l, ys, a, b, c, q, hl, so⟩
  · exact .inl D
  · exact (n _ rfl).elim
  · have := handS_str c
    subst this
    have so' : SortedOf (ch (!(!u)) z) ys := so
    rw [Bool.not_not] at so'
    exact .inr (.inr ⟨z, u, l, ys, a, b, rfl, q, hl, so'⟩)
theorem Due.alike {K : PySem.W.Frag} {good : V → Bool} {ch : Bool → Str → List Str} {H : Hp} {v h d t : V} (lay : ∀ z u, good (.str z) = true → ∀ y ∈ ch u z, PyData.canLay0 (.str y) = true)
    (A : Due good ch H v h t) (B : Due good ch H v h d) : ∃ D E, Dp K H t D ∧ Dp K H d E ∧ SeqAt.shaped D = true ∧ SeqAt.shaped E = true ∧ PyData.eqv D E = true := by
  rcases A with ⟨g, rfl⟩ | ⟨g, n, rfl⟩ | ⟨z, u, l, ys, rfl, g, rfl, rfl, hl, so⟩
  · rcases B with ⟨_, rfl⟩ | ⟨g', _⟩ | ⟨_, _, _, _, _, g', _⟩
    · exact ⟨_, _, .str _, .str _, by decide +kernel, by decide +kernel, by decide +kernel⟩
    · rw [g] at g'; cases g'
    · rw [g] at g'; cases g'
  · rcases B with ⟨g', _⟩ | ⟨_, _, rfl⟩ | ⟨_, u, _, _, _, _, e, _⟩
    · rw [g] at g'; cases g'
    · exact ⟨_, _, .str _, .str _, by decide +kernel, by decide +kernel, by decide +kernel⟩
    · exact (n u e).elim
  · rcases B with ⟨g', _⟩ | ⟨_, n, _⟩ | ⟨z', u', l', ys', e, _, e', rfl, hl', so'⟩
    · rw [g] at g'; cases g'
    · exact (n u rfl).elim
    · cases V.str.inj e
      cases handS_str e'
      cases sortedOf_uniq so so'
      have hs : ∀ y ∈ ys, PyData.canLay0 (.str y) = true := fun y hy => lay z u g y ((so.2.2 y).mp hy)
      exact ⟨_, _, .lst (SqL.of hl) (dp_strs ys), .lst (SqL.of hl') (dp_strs ys), shaped_strs hs, shaped_strs hs, by simp [PyData.eqv, eqv_strs]⟩
theorem told_due {K : PySem.W.Frag} {O : Hp → Addr → Prop} {good : V → Bool} {ch : Bool → Str → List Str} {p : Addr} {v h : V} {H : Hp} {Q : VK} {E : XK} (hg : ∀ v, good v = true → ∃ z, v = .str z)
    (hO : O H p) (hv : BoardV K H v) (hh : HandV K H h) (k : ∀ t H', Same H H' → Due good ch H' v h t → Q t H') : spLawTold K O good ch [.ref p, v, h] H Q E :=
  ⟨p, v, h, rfl, hO, hv, hh, fun g H' e => k _ _ e (.inl ⟨g, rfl⟩), fun g n H' e => k _ _ e (.inr (.inl ⟨g, n, rfl⟩)),
    fun z u ev g eh H' l ys e _ so hl => k _ _ e (.inr (.inr ⟨z, u, l, ys, ev, g, eh, rfl, hl, so⟩))⟩
end L2
namespace L2
open PySem PySem.Spec PyProof.Rows
theorem good_ones {z : Str} (h : z.length ≤ 5) : PyData.eqv (.list (((z.cps.toList.filter fun c => !decide (c ∈ FIGS)).map fun _ => (1 : Int)).map PyData.int)) (.list []) = goodT (.str z) := by
  cases e : z.cps.toList.filter fun c => !decide (c ∈ FIGS) with
  | nil =>
    have : goodT (.str z) = true := by
      have := List.filter_eq_nil_iff.mp e
      simp only [goodT, h, decide_true, Bool.true_and, List.all_eq_true]
      intro c hc
      have := this c hc
      simpa using this
    rw [this]
    simp [PyData.eqv, PyData.eqvAll]
  | cons c r =>
    have : goodT (.str z) = false := by
      have hc : c ∈ z.cps.toList.filter fun c => !decide (c ∈ FIGS) := by rw [e]; exact List.mem_cons_self
      obtain ⟨h1, h2⟩ := List.mem_filter.mp hc
      cases hg : goodT (.str z) with
      | false => rfl
      | true =>
        simp only [goodT, Bool.and_eq_true, List.all_eq_true] at hg
        rw [hg.2 c h1] at h2
        cases h2
    rw [this]
    simp [PyData.eqv, PyData.eqvAll]
theorem hand_in {h : V} (hv : (∃ u, h = .str (handS u)) ∨ h = .str "Up" ∨ h = .non) :
    (inV h [.str "up", .str "down"] = true ∧ ∃ u, h = .str (handS u)) ∨ (inV h [.str "up", .str "down"] = false ∧ ∀ u, h ≠ .str (handS u)) := by
  rcases hv with ⟨u, rfl⟩ | rfl | rfl
  · exact .inl ⟨(inV_hands _).mpr ⟨u, rfl⟩, u, rfl⟩
  · exact .inr ⟨by decide +kernel, fun u e => by cases u <;> exact absurd (V.str.inj e) (by decide)⟩
  · exact .inr ⟨by decide +kernel, fun u e => nomatch e⟩
theorem hand_flat {h : V} (hv : (∃ u, h = .str (handS u)) ∨ h = .str "Up" ∨ h = .non) : flatV h = true := by
  rcases hv with ⟨u, rfl⟩ | rfl | rfl <;> rfl
theorem hand_is {K : PySem.W.Frag} {H : Hp} {h : V} (hv : (∃ u, h = .str (handS u)) ∨ h = .str "Up" ∨ h = .non) : HandV K H h := by
  rcases hv with ⟨u, rfl⟩ | rfl | rfl
  · exact .inl ⟨_, rfl⟩
  · exact .inl ⟨_, rfl⟩
  · exact .inr ⟨_, .base .non, rfl⟩
end L2
namespace K73
open PySem L2
/-! ### the text by places -/
def top (i : Nat) : Stmt := PySem.Challenge.pw_duelsum_k73_takings.main.body.getD i (.Pass ⟨0, 0, 0, 0⟩)
abbrev sis_number : Stmt := top 10
abbrev sRule_moves : Stmt := inClass (top 11) 3
abbrev sTakings___init__ : Stmt := inClass (top 12) 0
abbrev sTakings_good_numbers : Stmt := inClass (top 12) 1
abbrev sTakings_is_board : Stmt := inClass (top 12) 2
abbrev sTakings_changed : Stmt := inClass (top 12) 4
abbrev sTurned___init__ : Stmt := inClass (top 13) 0
abbrev sTurned_is_board : Stmt := inClass (top 13) 1
abbrev sTurned_changed : Stmt := inClass (top 13) 3
abbrev slaw_next : Stmt := top 15
abbrev slaw_cell : Stmt := top 16
abbrev slaw_state : Stmt := top 17
abbrev slaw_told : Stmt := top 20
abbrev slaw_moves : Stmt := top 21
abbrev slaw_numbers : Stmt := top 22
abbrev slaw : Stmt := top 23
theorem scis_number : FnScope ["thing", "least", "most"] ["thing", "least", "most"] (defScope sis_number) := ⟨rfl, rfl, rfl, by decide +kernel, rfl, by decide +kernel, by decide +kernel⟩
theorem scRule_moves : FnScope ["self", "board", "hand"] ["self", "board", "hand"] (defScope sRule_moves) := ⟨rfl, rfl, rfl, by decide +kernel, rfl, by decide +kernel, by decide +kernel⟩
theorem scTakings___init__ : FnScope ["self", "ups", "downs"] ["self", "ups", "downs"] (defScope sTakings___init__) := ⟨rfl, rfl, rfl, by decide +kernel, rfl, by decide +kernel, by decide +kernel⟩
theorem scTakings_good_numbers : FnScope ["self", "numbers", "at", "number"] ["self", "numbers"] (defScope sTakings_good_numbers) := ⟨rfl, rfl, rfl, by decide +kernel, rfl, by decide +kernel, by decide +kernel⟩
theorem scTakings_is_board : FnScope ["self", "board", "sign"] ["self", "board"] (defScope sTakings_is_board) := ⟨rfl, rfl, rfl, by decide +kernel, rfl, by decide +kernel, by decide +kernel⟩
theorem scTakings_changed : FnScope ["self", "board", "hand", "found", "at", "sign", "number"] ["self", "board", "hand"] (defScope sTakings_changed) := ⟨rfl, rfl, rfl, by decide +kernel, rfl, by decide +kernel, by decide +kernel⟩
theorem scTurned___init__ : FnScope ["self", "rule"] ["self", "rule"] (defScope sTurned___init__) := ⟨rfl, rfl, rfl, by decide +kernel, rfl, by decide +kernel, by decide +kernel⟩
theorem scTurned_is_board : FnScope ["self", "board"] ["self", "board"] (defScope sTurned_is_board) := ⟨rfl, rfl, rfl, by decide +kernel, rfl, by decide +kernel, by decide +kernel⟩
theorem scTurned_changed : FnScope ["self", "board", "hand"] ["self", "board", "hand"] (defScope sTurned_changed) := ⟨rfl, rfl, rfl, by decide +kernel, rfl, by decide +kernel, by decide +kernel⟩
theorem sclaw_next : FnScope ["_law_state_here", "_law_many"] ["_law_state_here", "_law_many"] (defScope slaw_next) := ⟨rfl, rfl, rfl, by decide +kernel, rfl, by decide +kernel, by decide +kernel⟩
theorem sclaw_cell : FnScope ["_law_script", "_law_k"] ["_law_script", "_law_k"] (defScope slaw_cell) := ⟨rfl, rfl, rfl, by decide +kernel, rfl, by decide +kernel, by decide +kernel⟩
theorem sclaw_state : FnScope ["_law_cell_here", "_law_k", "_law_mixed"] ["_law_cell_here", "_law_k"] (defScope slaw_state) := ⟨rfl, rfl, rfl, by decide +kernel, rfl, by decide +kernel, by decide +kernel⟩
theorem sclaw_told : FnScope ["_law_rule", "_law_board", "_law_hand", "_law_error", "_law_found", "e"] ["_law_rule", "_law_board", "_law_hand"] (defScope slaw_told) := ⟨rfl, rfl, rfl, by decide +kernel, rfl, by decide +kernel, by decide +kernel⟩
theorem sclaw_moves : FnScope ["_law_numbers_here", "_law_board", "_law_found", "_law_at", "_law_figure", "_law_number", "_law_left"] ["_law_numbers_here", "_law_board"] (defScope slaw_moves) := ⟨rfl, rfl, rfl, by decide +kernel, rfl, by decide +kernel, by decide +kernel⟩
theorem sclaw_numbers : FnScope ["_law_cell_here", "_law_found", "_law_number"] ["_law_cell_here"] (defScope slaw_numbers) := ⟨rfl, rfl, rfl, by decide +kernel, rfl, by decide +kernel, by decide +kernel⟩
theorem sclaw : FnScope ["_law_script", "_law_cell_here", "_law_ups", "_law_downs", "_law_handed", "_law_rule", "_law_k", "_law_state_here", "_law_board", "_law_hand", "_law_good", "_law_due", "_law_j", "_law_sign"] ["_law_script"] (defScope slaw) := ⟨rfl, rfl, rfl, by decide +kernel, rfl, by decide +kernel, by decide +kernel⟩
/-! ### where all stands -/
structure Ad where
  fis_number : Addr
  dis_number : FuncData
  fRule_moves : Addr
  dRule_moves : FuncData
  fTakings___init__ : Addr
  dTakings___init__ : FuncData
  fTakings_good_numbers : Addr
  dTakings_good_numbers : FuncData
  fTakings_is_board : Addr
  dTakings_is_board : FuncData
  fTakings_changed : Addr
  dTakings_changed : FuncData
  fTurned___init__ : Addr
  dTurned___init__ : FuncData
  fTurned_is_board : Addr
  dTurned_is_board : FuncData
  fTurned_changed : Addr
  dTurned_changed : FuncData
  flaw_next : Addr
  dlaw_next : FuncData
  flaw_cell : Addr
  dlaw_cell : FuncData
  flaw_state : Addr
  dlaw_state : FuncData
  flaw_told : Addr
  dlaw_told : FuncData
  flaw_moves : Addr
  dlaw_moves : FuncData
  flaw_numbers : Addr
  dlaw_numbers : FuncData
  flaw : Addr
  dlaw : FuncData
  cDuelError : Addr
  cNoRule : Addr
  cNoBoard : Addr
  cNoHand : Addr
  cRule : Addr
  cTakings : Addr
  cTurned : Addr
  aHANDS : Addr
structure Txt (K : PySem.W.Frag) (mg : Str → Option Value) (A : Ad) : Prop where
  Fis_number : Fun K "is_number" "is_number" sis_number A.fis_number A.dis_number
  Bis_number : Binds K A.dis_number ["thing", "least", "most"] []
  mis_number : mg "is_number" = some (.ref A.fis_number)
  FRule_moves : Fun K "moves" "Rule.moves" sRule_moves A.fRule_moves A.dRule_moves
  BRule_moves : Binds K A.dRule_moves ["self", "board", "hand"] []
  FTakings___init__ : Fun K "__init__" "Takings.__init__" sTakings___init__ A.fTakings___init__ A.dTakings___init__
  BTakings___init__ : Binds K A.dTakings___init__ ["self", "ups", "downs"] []
  FTakings_good_numbers : Fun K "good_numbers" "Takings.good_numbers" sTakings_good_numbers A.fTakings_good_numbers A.dTakings_good_numbers
  BTakings_good_numbers : Binds K A.dTakings_good_numbers ["self", "numbers"] []
  FTakings_is_board : Fun K "is_board" "Takings.is_board" sTakings_is_board A.fTakings_is_board A.dTakings_is_board
  BTakings_is_board : Binds K A.dTakings_is_board ["self", "board"] []
  FTakings_changed : Fun K "changed" "Takings.changed" sTakings_changed A.fTakings_changed A.dTakings_changed
  BTakings_changed : Binds K A.dTakings_changed ["self", "board", "hand"] []
  FTurned___init__ : Fun K "__init__" "Turned.__init__" sTurned___init__ A.fTurned___init__ A.dTurned___init__
  BTurned___init__ : Binds K A.dTurned___init__ ["self", "rule"] []
  FTurned_is_board : Fun K "is_board" "Turned.is_board" sTurned_is_board A.fTurned_is_board A.dTurned_is_board
  BTurned_is_board : Binds K A.dTurned_is_board ["self", "board"] []
  FTurned_changed : Fun K "changed" "Turned.changed" sTurned_changed A.fTurned_changed A.dTurned_changed
  BTurned_changed : Binds K A.dTurned_changed ["self", "board", "hand"] []
  Flaw_next : Fun K "_law_next" "_law_next" slaw_next A.flaw_next A.dlaw_next
  Blaw_next : Binds K A.dlaw_next ["_law_state_here", "_law_many"] []
  mlaw_next : mg "_law_next" = some (.ref A.flaw_next)
  Flaw_cell : Fun K "_law_cell" "_law_cell" slaw_cell A.flaw_cell A.dlaw_cell
  Blaw_cell : Binds K A.dlaw_cell ["_law_script", "_law_k"] []
  mlaw_cell : mg "_law_cell" = some (.ref A.flaw_cell)
  Flaw_state : Fun K "_law_state" "_law_state" slaw_state A.flaw_state A.dlaw_state
  Blaw_state : Binds K A.dlaw_state ["_law_cell_here", "_law_k"] []
  mlaw_state : mg "_law_state" = some (.ref A.flaw_state)
  Flaw_told : Fun K "_law_told" "_law_told" slaw_told A.flaw_told A.dlaw_told
  Blaw_told : Binds K A.dlaw_told ["_law_rule", "_law_board", "_law_hand"] []
  mlaw_told : mg "_law_told" = some (.ref A.flaw_told)
  Flaw_moves : Fun K "_law_moves" "_law_moves" slaw_moves A.flaw_moves A.dlaw_moves
  Blaw_moves : Binds K A.dlaw_moves ["_law_numbers_here", "_law_board"] []
  mlaw_moves : mg "_law_moves" = some (.ref A.flaw_moves)
  Flaw_numbers : Fun K "_law_numbers" "_law_numbers" slaw_numbers A.flaw_numbers A.dlaw_numbers
  Blaw_numbers : Binds K A.dlaw_numbers ["_law_cell_here"] []
  mlaw_numbers : mg "_law_numbers" = some (.ref A.flaw_numbers)
  Flaw : Fun K "law" "law" slaw A.flaw A.dlaw
  Blaw : Binds K A.dlaw ["_law_script"] []
  mlaw : mg "law" = some (.ref A.flaw)
  mDuelError : mg "DuelError" = some (.ref A.cDuelError)
  mNoRule : mg "NoRule" = some (.ref A.cNoRule)
  mNoBoard : mg "NoBoard" = some (.ref A.cNoBoard)
  mNoHand : mg "NoHand" = some (.ref A.cNoHand)
  mRule : mg "Rule" = some (.ref A.cRule)
  mTakings : mg "Takings" = some (.ref A.cTakings)
  mTurned : mg "Turned" = some (.ref A.cTurned)
  clTakings : Cls K A.cTakings
  coTakings : ClsO K A.cTakings
  mkTakings : Mk K A.cTakings A.fTakings___init__
  nTakings_takings : NoAttr K A.cTakings "takings"
  hTakings_good_numbers : Meth K A.cTakings "good_numbers" A.fTakings_good_numbers
  hTakings_is_board : Meth K A.cTakings "is_board" A.fTakings_is_board
  hTakings_changed : Meth K A.cTakings "changed" A.fTakings_changed
  hTakings_moves : Meth K A.cTakings "moves" A.fRule_moves
  iTakings_Rule : PySem.W.kitOne K (.ref A.cTakings) (.ref A.cRule) = some true
  iTakings_Takings : PySem.W.kitOne K (.ref A.cTakings) (.ref A.cTakings) = some true
  iTakings_Turned : PySem.W.kitOne K (.ref A.cTakings) (.ref A.cTurned) = some false
  clTurned : Cls K A.cTurned
  coTurned : ClsO K A.cTurned
  mkTurned : Mk K A.cTurned A.fTurned___init__
  nTurned_inner : NoAttr K A.cTurned "inner"
  hTurned_is_board : Meth K A.cTurned "is_board" A.fTurned_is_board
  hTurned_changed : Meth K A.cTurned "changed" A.fTurned_changed
  hTurned_moves : Meth K A.cTurned "moves" A.fRule_moves
  iTurned_Rule : PySem.W.kitOne K (.ref A.cTurned) (.ref A.cRule) = some true
  iTurned_Takings : PySem.W.kitOne K (.ref A.cTurned) (.ref A.cTakings) = some false
  iTurned_Turned : PySem.W.kitOne K (.ref A.cTurned) (.ref A.cTurned) = some true
  i_int_Rule : PySem.W.kitOne K (.type "int") (.ref A.cRule) = some false
  i_str_Rule : PySem.W.kitOne K (.type "str") (.ref A.cRule) = some false
  i_NoneType_Rule : PySem.W.kitOne K (.type "NoneType") (.ref A.cRule) = some false
  i_bool_Rule : PySem.W.kitOne K (.type "bool") (.ref A.cRule) = some false
  i_list_Rule : PySem.W.kitOne K (.type "list") (.ref A.cRule) = some false
  i_tuple_Rule : PySem.W.kitOne K (.type "tuple") (.ref A.cRule) = some false
  i_dict_Rule : PySem.W.kitOne K (.type "dict") (.ref A.cRule) = some false
  i_int_Takings : PySem.W.kitOne K (.type "int") (.ref A.cTakings) = some false
  i_str_Takings : PySem.W.kitOne K (.type "str") (.ref A.cTakings) = some false
  i_NoneType_Takings : PySem.W.kitOne K (.type "NoneType") (.ref A.cTakings) = some false
  i_bool_Takings : PySem.W.kitOne K (.type "bool") (.ref A.cTakings) = some false
  i_list_Takings : PySem.W.kitOne K (.type "list") (.ref A.cTakings) = some false
  i_tuple_Takings : PySem.W.kitOne K (.type "tuple") (.ref A.cTakings) = some false
  i_dict_Takings : PySem.W.kitOne K (.type "dict") (.ref A.cTakings) = some false
  i_int_Turned : PySem.W.kitOne K (.type "int") (.ref A.cTurned) = some false
  i_str_Turned : PySem.W.kitOne K (.type "str") (.ref A.cTurned) = some false
  i_NoneType_Turned : PySem.W.kitOne K (.type "NoneType") (.ref A.cTurned) = some false
  i_bool_Turned : PySem.W.kitOne K (.type "bool") (.ref A.cTurned) = some false
  i_list_Turned : PySem.W.kitOne K (.type "list") (.ref A.cTurned) = some false
  i_tuple_Turned : PySem.W.kitOne K (.type "tuple") (.ref A.cTurned) = some false
  i_dict_Turned : PySem.W.kitOne K (.type "dict") (.ref A.cTurned) = some false
  yDuelError_DuelError : PySem.W.exmOne K (.ref A.cDuelError) (.ref A.cDuelError) = some true
  wDuelError_DuelError : PySem.W.kitOne K (.ref A.cDuelError) (.ref A.cDuelError) = some true
  yDuelError_NoRule : PySem.W.exmOne K (.ref A.cDuelError) (.ref A.cNoRule) = some false
  wDuelError_NoRule : PySem.W.kitOne K (.ref A.cDuelError) (.ref A.cNoRule) = some false
  yDuelError_NoBoard : PySem.W.exmOne K (.ref A.cDuelError) (.ref A.cNoBoard) = some false
  wDuelError_NoBoard : PySem.W.kitOne K (.ref A.cDuelError) (.ref A.cNoBoard) = some false
  yDuelError_NoHand : PySem.W.exmOne K (.ref A.cDuelError) (.ref A.cNoHand) = some false
  wDuelError_NoHand : PySem.W.kitOne K (.ref A.cDuelError) (.ref A.cNoHand) = some false
  vDuelError : PySem.W.kitOne K (.ref A.cDuelError) (.type "ValueError") = some true
  xNoRule : ExcF K A.cNoRule
  yNoRule_DuelError : PySem.W.exmOne K (.ref A.cNoRule) (.ref A.cDuelError) = some true
  wNoRule_DuelError : PySem.W.kitOne K (.ref A.cNoRule) (.ref A.cDuelError) = some true
  yNoRule_NoRule : PySem.W.exmOne K (.ref A.cNoRule) (.ref A.cNoRule) = some true
  wNoRule_NoRule : PySem.W.kitOne K (.ref A.cNoRule) (.ref A.cNoRule) = some true
  yNoRule_NoBoard : PySem.W.exmOne K (.ref A.cNoRule) (.ref A.cNoBoard) = some false
  wNoRule_NoBoard : PySem.W.kitOne K (.ref A.cNoRule) (.ref A.cNoBoard) = some false
  yNoRule_NoHand : PySem.W.exmOne K (.ref A.cNoRule) (.ref A.cNoHand) = some false
  wNoRule_NoHand : PySem.W.kitOne K (.ref A.cNoRule) (.ref A.cNoHand) = some false
  vNoRule : PySem.W.kitOne K (.ref A.cNoRule) (.type "ValueError") = some true
  xNoBoard : ExcF K A.cNoBoard
  yNoBoard_DuelError : PySem.W.exmOne K (.ref A.cNoBoard) (.ref A.cDuelError) = some true
  wNoBoard_DuelError : PySem.W.kitOne K (.ref A.cNoBoard) (.ref A.cDuelError) = some true
  yNoBoard_NoRule : PySem.W.exmOne K (.ref A.cNoBoard) (.ref A.cNoRule) = some false
  wNoBoard_NoRule : PySem.W.kitOne K (.ref A.cNoBoard) (.ref A.cNoRule) = some false
  yNoBoard_NoBoard : PySem.W.exmOne K (.ref A.cNoBoard) (.ref A.cNoBoard) = some true
  wNoBoard_NoBoard : PySem.W.kitOne K (.ref A.cNoBoard) (.ref A.cNoBoard) = some true
  yNoBoard_NoHand : PySem.W.exmOne K (.ref A.cNoBoard) (.ref A.cNoHand) = some false
  wNoBoard_NoHand : PySem.W.kitOne K (.ref A.cNoBoard) (.ref A.cNoHand) = some false
  vNoBoard : PySem.W.kitOne K (.ref A.cNoBoard) (.type "ValueError") = some true
  xNoHand : ExcF K A.cNoHand
  yNoHand_DuelError : PySem.W.exmOne K (.ref A.cNoHand) (.ref A.cDuelError) = some true
  wNoHand_DuelError : PySem.W.kitOne K (.ref A.cNoHand) (.ref A.cDuelError) = some true
  yNoHand_NoRule : PySem.W.exmOne K (.ref A.cNoHand) (.ref A.cNoRule) = some false
  wNoHand_NoRule : PySem.W.kitOne K (.ref A.cNoHand) (.ref A.cNoRule) = some false
  yNoHand_NoBoard : PySem.W.exmOne K (.ref A.cNoHand) (.ref A.cNoBoard) = some false
  wNoHand_NoBoard : PySem.W.kitOne K (.ref A.cNoHand) (.ref A.cNoBoard) = some false
  yNoHand_NoHand : PySem.W.exmOne K (.ref A.cNoHand) (.ref A.cNoHand) = some true
  wNoHand_NoHand : PySem.W.kitOne K (.ref A.cNoHand) (.ref A.cNoHand) = some true
  vNoHand : PySem.W.kitOne K (.ref A.cNoHand) (.type "ValueError") = some true
  z_all : mg "all" = none
  z_bool : mg "bool" = none
  z_enumerate : mg "enumerate" = none
  z_int : mg "int" = none
  z_isinstance : mg "isinstance" = none
  z_len : mg "len" = none
  z_list : mg "list" = none
  z_range : mg "range" = none
  z_set : mg "set" = none
  z_sorted : mg "sorted" = none
  z_str : mg "str" = none
  kMOST_FIGURES : ∃ t, mg "MOST_FIGURES" = some (.int 5 t)
  kFIGURES : ∃ t, mg "FIGURES" = some (.str "0123456789" t)
  kHANDS : mg "HANDS" = some (.ref A.aHANDS)
  lHANDS : ∃ dd n sl its, K.lookup A.aHANDS = some ⟨.type "tuple", dd, .seq its n, sl⟩ ∧ its.size = 2 ∧ Vals [V.str "up", V.str "down"] its.toList
end K73
namespace K73
open PySem L2
section
variable {P : Program} {w : World} {K : PySem.W.Frag} {mg : Str → Option Value} {base : Heap} {A : Ad}
theorem ok_is_number (T : Txt K mg A) : FnOk P w K mg base CX0 1 A.fis_number A.dis_number ["thing", "least", "most"] (spNum K) := by
  refine T.Fis_number.ok scis_number (fun vs H Q E h => ?_) (fun cdv Ar outer s H vs Q E hr h => ?_)
  · obtain ⟨v, lo, hi, rfl, _⟩ := h
    rfl
  · obtain ⟨v, lo, hi, rfl, hv, k⟩ := h
    refine ⟨_, (pss_one (ps_ret (pe_and (pe_callB call_isi (by rfl) T.z_isinstance boot_isi (pa_cons (pv 0) (pa_cons (pe_gT (n := "int") T.z_int) pa_nil))) (pe_and (pe_not (pe_callB call_isi (by rfl) T.z_isinstance boot_isi (pa_cons (pv 0) (pa_cons (pe_gT (n := "bool") T.z_bool) pa_nil)))) (pe_one (pe_chain op_le op_le (pv 1) (pv 0) (pv 2))))))), ?_⟩
    rcases hv with ⟨i, rfl⟩ | ⟨b, rfl⟩ | ⟨t, ty, kt⟩
    · refine ⟨_, rfl, _, _, _, _, true, rfl, .ty "int", .base (.int i), kit_ty (by decide +kernel), true, rfl, ?_⟩
      refine iteT ⟨_, rfl, _, _, _, _, false, rfl, .ty "bool", .base (.int i), kit_ty (by decide +kernel), false, rfl, true, rfl, iteT ?_⟩
      refine ⟨_, rfl, _, rfl, _, _, rfl, rfl, _, rfl, ?_⟩
      show if decide (lo ≤ i) = true then _ else _
      cases h1 : decide (lo ≤ i) with
      | true =>
        refine iteT ⟨_, rfl, i, hi, rfl, rfl, ?_⟩
        simpa [numOk, h1] using k
      | false =>
        refine iteF ?_
        simpa [numOk, h1] using k
    · refine ⟨_, rfl, _, _, _, _, true, rfl, .ty "int", .base (.bl b), kit_ty (by decide +kernel), true, rfl, ?_⟩
      exact iteT ⟨_, rfl, _, _, _, _, true, rfl, .ty "bool", .base (.bl b), kit_ty (by decide +kernel), true, rfl, false, rfl, iteF k⟩
    · refine ⟨_, rfl, _, _, _, _, false, rfl, .ty "int", ty, kt, false, rfl, ?_⟩
      refine iteF ?_
      have : numOk v lo hi = false := by
        cases v <;> first | rfl | exact (IsNot.int ⟨t, ty, kt⟩).elim
      rw [this] at k
      exact k
end
end K73
namespace K73
open PySem L2
section
variable {P : Program} {w : World} {K : PySem.W.Frag} {mg : Str → Option Value} {base : Heap} {A : Ad}
theorem ok_good_numbers (T : Txt K mg A) : FnOk P w K mg base (L2.CX P w) 2 A.fTakings_good_numbers A.dTakings_good_numbers ["self", "numbers"] (spGoodNums K (.ref A.cNoRule)) := by
  have Gis_number : FnOk P w K mg base CX0 1 A.fis_number A.dis_number ["thing", "least", "most"] (spNum K) := ok_is_number T
  refine T.FTakings_good_numbers.okX scTakings_good_numbers (fun vs H Q E h => ?_) (fun cdv Ar outer s H vs Q E hr h => ?_)
  · obtain ⟨p, v, rfl, _⟩ := h
    rfl
  · obtain ⟨p, v, rfl, h⟩ := h
    refine ⟨_, (pss_cons (ps_if (pt_not (pt_val (pe_callB call_isi (by rfl) T.z_isinstance boot_isi (pa_cons (pv 1) (pa_cons (pe_gT (n := "list") T.z_list) pa_nil))))) (pss_one (ps_raise rfl (takes_of rfl rfl rfl rfl) (pmk_F T.xNoRule T.mNoRule))) pss_nil)
      (pss_cons (ps_for (passes_of rfl) rfl (pi_enum (by rfl) T.z_enumerate (pa_cons (pv 1) pa_nil)) (pg_tup (by rfl) (pgs_cons (pg_name (i := 2) scTakings_good_numbers.nd rfl (Or.inl rfl)) (pgs_cons (pg_name (i := 3) scTakings_good_numbers.nd rfl (Or.inl rfl)) pgs_nil)))
        (pss_one (ps_if (PW.pt (pw_or (pt_not (pt_val (pe_call Gis_number (hr.mono (by decide)) rfl T.mis_number T.Fis_number.kp T.Bis_number .nil pass0 (pa_cons (pv 3) (pa_cons pe_int (pa_cons pe_int pa_nil)))))) (pw_or1 (pt_cmpR op_in_seq (pv 3) (pe_slice sl_list (pv 1) po_none (po_some (pv 2))) (by rfl))))) (pss_one (ps_raise rfl (takes_of rfl rfl rfl rfl) (pmk_F T.xNoRule T.mNoRule))) pss_nil)))
      (pss_one (ps_ret (pe_callTy call_list_of (by rfl) T.z_list (by decide +kernel) (pa_cons (pv 1) pa_nil)))))), ?_⟩
    rcases h with ⟨⟨t, ty, kt⟩, kE⟩ | ⟨a, xs, rfl, ha, hlen, hnum, kQ, kE⟩
    · refine ⟨_, rfl, _, _, _, _, false, rfl, .ty "list", ty, kt, false, rfl, ?_⟩
      exact kE
    · refine ⟨_, rfl, _, _, _, _, true, rfl, .ty "list", .base (.lst ha), kit_ty (by decide +kernel), true, rfl, ?_⟩
      refine iteF ?_
      refine ⟨_, rfl, a, xs, rfl, SqL.of ha, for_enumL (K := K) (a := a) (xs := xs) (fun i σ H' => ∃ u v, σ = [some p, some (.ref a), u, v] ∧ Same H H' ∧ ∀ j x, j < i → xs[j]? = some x → numOk x 1 9 = true ∧ inV x (xs.take j) = false)
        ⟨_, _, rfl, Same.refl H, fun j x hj => absurd hj (Nat.not_lt_zero j)⟩ (fun i σ H' _ ⟨_, _, _, e, _⟩ => e.seq (SqL.of ha)) ?_ ?_⟩
      · rintro i x σ H1 Tp hx ⟨u, v, rfl, e, good⟩ hT
        have hi : i < xs.length := (List.getElem?_eq_some_iff.mp hx).1
        refine ⟨Tp, _, rfl, SqT.of upd_same, rfl, _, _, rfl, _, _, rfl, rfl, ?_⟩
        have e2 : Same H (upd H1 Tp (.tup [.int (i : Nat), x])) := e.trans (Same.new hT)
        refine ⟨_, rfl, x, 1, 9, rfl, e2.numV (hnum x (List.mem_of_getElem? hx)), _, rfl, ?_⟩
        cases hn : numOk x 1 9 with
        | false => exact kE (fun g => by rw [(g i x hx).1] at hn; cases hn) _ e2
        | true =>
          obtain ⟨n, rfl, _, _⟩ := numOk_int hn
          refine ⟨_, rfl, _, rfl, _, rfl, _, rfl, a, xs, rfl, e2.seq (SqL.of ha), fun S hS => ?_⟩
          rw [cutV_take (Nat.le_of_lt hi)]
          have e3 := e2.trans (Same.new (o := .lst (xs.take i)) hS)
          refine ⟨S, xs.take i, rfl, .inl (SqL.of upd_same), rfl, ?_, _, rfl, ?_⟩
          · rw [List.all_eq_true]
            intro y hy
            obtain ⟨j, hj⟩ := List.mem_iff_getElem?.mp hy
            rw [List.getElem?_take] at hj
            split at hj
            · rename_i hji
              obtain ⟨m, rfl, _⟩ := numOk_int (good j y hji hj).1
              rfl
            · cases hj
          · show if inV (.int n) (xs.take i) = true then _ else _
            cases hv : inV (.int n) (xs.take i) with
            | true => exact iteT (kE (fun g => by rw [(g i _ hx).2] at hv; cases hv) _ e3)
            | false =>
              refine iteF ⟨_, _, rfl, e3, fun j y hj hy => ?_⟩
              rcases Nat.lt_succ_iff_lt_or_eq.mp hj with h | h
              · exact good j y h hy
              · subst h
                rw [hx] at hy
                cases hy
                exact ⟨hn, hv⟩
      · rintro σ H1 ⟨u, v, rfl, e, good⟩
        refine ⟨_, rfl, a, xs, rfl, .inl (e.seq (SqL.of ha)), fun l hl => ?_⟩
        exact kQ (fun i x hx => good i x (List.getElem?_eq_some_iff.mp hx).1 hx) _ l (e.trans (Same.new hl)) (e.free hl) upd_same
end
end K73
namespace K73
open PySem L2
section
variable {P : Program} {w : World} {K : PySem.W.Frag} {mg : Str → Option Value} {base : Heap} {A : Ad}
theorem ok_tak_init (T : Txt K mg A) : FnOk P w K mg base (L2.CX P w) 3 A.fTakings___init__ A.dTakings___init__ ["self", "ups", "downs"] (spTakInit K A.cTakings (.ref A.cNoRule)) := by
  have GTakings_good_numbers : FnOk P w K mg base (L2.CX P w) 2 A.fTakings_good_numbers A.dTakings_good_numbers ["self", "numbers"] (spGoodNums K (.ref A.cNoRule)) := ok_good_numbers T
  refine T.FTakings___init__.okX scTakings___init__ (fun vs H Q E h => ?_) (fun cdv Ar outer s H vs Q E hr h => ?_)
  · obtain ⟨p, dx, u, d, o1, o2, rfl, _⟩ := h
    rfl
  · obtain ⟨p, dx, u, d, o1, o2, rfl, hp, hu, hd, kQ, kE⟩ := h
    refine ⟨_, (pss_one (ps_fld (pv 0) (pe_disp (pps_cons pe_str (pe_meth (pv 0) T.clTakings T.hTakings_good_numbers GTakings_good_numbers (hr.mono (by decide)) T.BTakings_good_numbers .nil (passes_call (takes_of rfl rfl rfl rfl) (fun _ _ _ _ h => h)) (pa_cons (pv 1) pa_nil)) (pps_cons pe_str (pe_meth (pv 0) T.clTakings T.hTakings_good_numbers GTakings_good_numbers (hr.mono (by decide)) T.BTakings_good_numbers .nil (passes_call (takes_of rfl rfl rfl rfl) (fun _ _ _ _ h => h)) (pa_cons (pv 2) pa_nil)) pps_nil)) (by rfl) (by rfl) (fun z => by cases z) (by decide)) rfl)), ?_⟩
    refine fun t ht => ?_
    have e1 := Same.new (o := .dK []) ht
    have hp1 := e1 _ _ hp
    refine ⟨_, rfl, p, dx, [], rfl, hp1, rfl, _, rfl, ?_⟩
    unfold tNil
    show spGoodNums K (.ref A.cNoRule) [.ref p, u] _ _ _
    refine gn_use (e1.nArg hu) (fun xs ex gx H1 l e2 hl hl1 => ?_) (fun ng H1 e2 => ?_)
    · have e3 := e1.trans e2
      refine ⟨_, rfl, p, dx, [], rfl, e3 _ _ hp, rfl, _, rfl, ?_⟩
      show spGoodNums K (.ref A.cNoRule) [.ref p, d] _ _ _
      refine gn_use (e3.nArg hd) (fun ys ey gy H2 m e4 hm hm1 => ?_) (fun ng H2 e4 => ?_)
      · have e5 := e3.trans e4
        have ht2 : H2 t = some (.dK []) := e4 _ _ (e2 _ _ upd_same)
        have hp2 := e5 _ _ hp
        have npt : p ≠ t := ne_of_none hp ht
        have nlt : l ≠ t := fun z => by rw [z, upd_same] at hl; cases hl
        have nmt : m ≠ t := fun z => by rw [z, e2 _ _ upd_same] at hm; cases hm
        have hl2 : H2 l = some (.lst xs) := e4 _ _ hl1
        have nlp : l ≠ p := ne_of hl2 hp2 (by intro z; cases z)
        have nmp : m ≠ p := ne_of hm1 hp2 (by intro z; cases z)
        refine ⟨ht2, [(Sum.inr "up", .ref l), (Sum.inr "down", .ref m)], rfl, (by show 2 ≤ 15; decide), ?_⟩
        refine ⟨_, rfl, p, A.cTakings, dx, [], rfl, (by rw [upd_ne npt]; exact hp2), T.clTakings, T.nTakings_takings, (by decide), ?_⟩
        refine kQ xs ys ex ey gx gy _ ⟨dx, t, l, m, ht, e1.free hl, e3.free hm, upd_same, ?_, ?_, ?_⟩ fun b o hb nb => ?_
        · rw [upd_ne (Ne.symm npt), upd_same]; rfl
        · rw [upd_ne nlp, upd_ne nlt]; exact hl2
        · rw [upd_ne nmp, upd_ne nmt]; exact hm1
        · rw [upd_ne nb, upd_ne (ne_of_none hb ht)]
          exact e5 _ _ hb
      · exact kE (fun z => ng z.2) _ (e3.trans e4)
    · exact kE (fun z => ng z.1) _ (e1.trans e2)
end
end K73
namespace K73
open PySem L2
section
variable {P : Program} {w : World} {K : PySem.W.Frag} {mg : Str → Option Value} {base : Heap} {A : Ad}
theorem ok_tak_is_board (T : Txt K mg A) (O : Hp → Addr → Prop) : FnOk P w K mg base CX0 1 A.fTakings_is_board A.dTakings_is_board ["self", "board"] (spIsB K O goodT) := by
  refine T.FTakings_is_board.ok scTakings_is_board (fun vs H Q E h => ?_) (fun cdv Ar outer s H vs Q E hr h => ?_)
  · obtain ⟨p, v, rfl, _⟩ := h
    rfl
  · obtain ⟨p, v, rfl, _, hv, k⟩ := h
    refine ⟨_, (pss_cons (ps_if (PW.pt (pw_or (pt_not (pt_val (pe_callB call_isi (by rfl) T.z_isinstance boot_isi (pa_cons (pv 1) (pa_cons (pe_gT (n := "str") T.z_str) pa_nil))))) (pw_or1 (pt_cmpR op_gt (pe_callB call_len_str (by rfl) T.z_len PySem.boot_len (pa_cons (pv 1) pa_nil)) (pe_gI T.kMOST_FIGURES) (nomark _))))) (pss_one (ps_ret pe_bl)) pss_nil)
      (pss_one (ps_ret (pe_callB (cr_all rfl) (by rfl) T.z_all (by decide +kernel) (pa_cons (pe_lc (own := [("sign", 2)]) (g := gName 2) (tt := tYes) rfl scTakings_is_board.nd (pi_str (pv 1)) (blkOk_by (N := ["self", "board", "sign"]) (sc := defScope sTakings_is_board) (by decide +kernel)) (fun _ _ _ _ _ => pg_name (i := 2) scTakings_is_board.nd rfl (Or.inl rfl)) (fun _ _ _ _ _ => pts_nil) (fun _ _ _ _ _ => (pe_cmpR op_in_sign (pv 2) (pe_gS T.kFIGURES) (by rfl)))) pa_nil))))), ?_⟩
    rcases hv with ⟨z, rfl, hz⟩ | nt
    · refine ⟨_, rfl, _, _, _, _, true, rfl, .ty "str", .base (.str z), kit_ty (by decide +kernel), true, rfl, ?_⟩
      refine iteF ⟨_, rfl, z, rfl, Nat.le_trans hz (by decide), _, _, rfl, rfl, _, rfl, ?_⟩
      by_cases h5 : (5 : Int) < (z.length : Int)
      · rw [decide_eq_true h5]
        refine iteT ?_
        have : goodT (.str z) = false := by simp [goodT]; intro q; omega
        rw [this] at k
        exact k H (Same.refl H)
      · rw [decide_eq_false h5]
        refine iteF ⟨_, rfl, z, rfl, fun L hL => lc_str (z := z) (fun i H' => Same H H' ∧ H' L = some (.lst (((z.cps.toList.take i).map fun c => decide (c ∈ FIGS)).map V.bl))) ⟨Same.new hL, by rw [upd_same]; simp⟩ ?_ ?_⟩
        · rintro i c H1 hc ⟨e, hl⟩
          refine ⟨rfl, _, rfl, c, _, rfl, rfl, _, hl, ?_, e.mut hL, ?_⟩
          · rw [List.length_map, List.length_map, List.length_take, cps_len]
            exact small1000 (Nat.le_trans (Nat.min_le_right _ _) hz)
          · rw [upd_same, take_snoc (cps_at hc), List.map_append, List.map_append]
            rfl
        · rintro H1 ⟨e, hl⟩
          refine ⟨L, _, rfl, SqL.of hl, ?_⟩
          rw [cps_take, all_map_id]
          have : goodT (.str z) = z.cps.toList.all fun c => decide (c ∈ FIGS) := by
            have h6 : z.length ≤ 5 := by omega
            simp [goodT, h6]
          rw [this] at k
          exact k H1 e
    · obtain ⟨t, ty, kt⟩ := nt
      refine ⟨_, rfl, _, _, _, _, false, rfl, .ty "str", ty, kt, false, rfl, ?_⟩
      refine iteT ?_
      have : goodT v = false := by
        cases v <;> first | rfl | exact (IsNot.str ⟨t, ty, kt⟩).elim
      rw [this] at k
      exact k H (Same.refl H)
theorem handS_get (u : Bool) {l m : Addr} : valV [((Sum.inr "up" : Key), V.ref l), (Sum.inr "down", V.ref m)] (Sum.inr (handS u)) = some (.ref (if u = true then l else m)) := by
  cases u <;> rfl
theorem ok_tak_changed (T : Txt K mg A) (ups downs : List Int) (hu9 : ups.length ≤ 9) (hd9 : downs.length ≤ 9) (hu1 : ∀ n ∈ ups, 1 ≤ n) (hd1 : ∀ n ∈ downs, 1 ≤ n) :
    FnOk P w K mg base CX0 1 A.fTakings_changed A.dTakings_changed ["self", "board", "hand"] (spChg (fun H p => TakAt A.cTakings H p (ups.map V.int) (downs.map V.int)) goodT fun u z => genT (if u = true then ups else downs) z z.length) := by
  refine T.FTakings_changed.ok scTakings_changed (fun vs H Q E h => ?_) (fun cdv Ar outer s H vs Q E hr h => ?_)
  · obtain ⟨p, z, u, rfl, _⟩ := h
    rfl
  · obtain ⟨p, z, u, rfl, hO, hz, k⟩ := h
    obtain ⟨hz5, hfig⟩ := goodT_str hz
    obtain ⟨dx, t, l, m, h1, h2, h3, h4⟩ := id hO
    generalize hnums : (if u = true then ups else downs) = nums
    have hl9 : nums.length ≤ 9 := by rw [← hnums]; split <;> assumption
    have hl1 : ∀ n ∈ nums, 1 ≤ n := by rw [← hnums]; split <;> assumption
    have hla : H (if u = true then l else m) = some (.lst (nums.map V.int)) := by rw [← hnums]; cases u <;> assumption
    have k' : ∀ H' l, Same H H' → H l = none → H' l = some (.lst ((genT nums z z.length).map V.str)) → Q (.ref l) H' := by rw [← hnums]; exact k
    generalize hal : (if u = true then l else m) = al at hla
    refine ⟨_, (pss_cons (ps_set (i := 3) scTakings_changed.nd rfl (Or.inl rfl) (pe_lst pa_nil))
      (pss_cons (ps_for PassesOwn.never rfl (pi_enumS (by rfl) T.z_enumerate (pa_cons (pv 1) pa_nil)) (pg_tup (by rfl) (pgs_cons (pg_name (i := 4) scTakings_changed.nd rfl (Or.inl rfl)) (pgs_cons (pg_name (i := 5) scTakings_changed.nd rfl (Or.inl rfl)) pgs_nil)))
        (pss_one (ps_for PassesOwn.never rfl (pi_list (pe_dget (hu_of hr) (pe_fld (pv 0) rfl) (pv 2) (fun _ _ => rfl))) (pg_name (i := 6) scTakings_changed.nd rfl (Or.inl rfl))
          (pss_one (ps_if (pt_cmpR op_le (pv 6) (pe_callTy call_int_str (by rfl) T.z_int (by decide +kernel) (pa_cons (pv 5) pa_nil)) (nomark _)) (pss_one (ps_expr (pe_bm PySem.F.plainAttrs_list PySem.F.slot_list_append PySem.F.type_list_append mt_append (pv 3) (pa_cons (pe_op op_add_str (pe_op op_add_str (pe_slice sl_str (pv 1) po_none (po_some (pv 4))) (pe_callTy call_str_int (by rfl) T.z_str (by decide +kernel) (pa_cons (pe_op op_sub (pe_callTy call_int_str (by rfl) T.z_int (by decide +kernel) (pa_cons (pv 5) pa_nil)) (pv 6)) pa_nil))) (pe_slice sl_str (pv 1) (po_some (pe_op op_add (pv 4) pe_int)) po_none)) pa_nil)))) pss_nil)))))
      (pss_one (ps_ret (pv 3))))), ?_⟩
    refine ⟨Nat.zero_le _, fun f hf => ?_⟩
    refine ⟨_, rfl, z, rfl, for_enumS (z := z) (fun i σ H' => ∃ a b c, σ = [some (.ref p), some (.str z), some (.str (handS u)), some (.ref f), a, b, c] ∧ Same H H' ∧ H' f = some (.lst ((genT nums z i).map V.str)))
      ⟨_, _, _, rfl, Same.new hf, by rw [upd_same]; rfl⟩ ?_ ?_⟩
    · rintro i c σ H1 Tp hc ⟨a, b, c', rfl, e, hl⟩ hT
      refine ⟨Tp, _, rfl, SqT.of upd_same, rfl, _, _, rfl, _, _, rfl, rfl, ?_⟩
      have hcF := hfig i c hc
      obtain ⟨c1, c2⟩ := fig_mem hcF
      have hi5 : i < z.length := (Array.getElem?_eq_some_iff.mp hc).1
      have hgd : z.cps.toList.getD i 0 = c := by rw [List.getD_eq_getElem?_getD, cps_at hc]; rfl
      have nfT : f ≠ Tp := ne_of_none hl hT
      have e2 : Same H (upd H1 Tp (.tup [.int (i : Nat), .str ⟨#[c]⟩])) := e.trans (Same.new hT)
      have hl2 : (upd H1 Tp (.tup [.int (i : Nat), .str ⟨#[c]⟩])) f = some (.lst ((genT nums z i).map V.str)) := by rw [upd_ne nfT]; exact hl
      refine ⟨_, rfl, p, A.cTakings, dx, _, _, rfl, e2 _ _ h1, T.clTakings, T.nTakings_takings, rfl, _, rfl, t, .ref al, rfl, (by have g := DGet.k (k := Sum.inr (handS u)) (e2 _ _ h2); rw [handS_get, hal] at g; exact g), al, rfl, ⟨_, SqL.of (e2 _ _ hla)⟩,
        for_list (K := K) (a := al) (xs := nums.map V.int) (fun j σ H' => ∃ x, σ = [some (.ref p), some (.str z), some (.str (handS u)), some (.ref f), some (.int (i : Nat)), some (.str ⟨#[c]⟩), x] ∧ Same H H' ∧
          H' f = some (.lst ((genT nums z i ++ ((nums.take j).filter fun n => decide (n ≤ digit c)).map fun n => midT z i (figT (digit c - n))).map V.str)))
          ⟨_, rfl, e2, by rw [hl2]; simp⟩ (fun j σ H' _ ⟨_, _, e', _⟩ => SqL.of (e' _ _ hla)) ?_ ?_⟩
      · rintro j v σ H2 hv ⟨x, rfl, e3, hl3⟩
        obtain ⟨n, hn, rfl⟩ := ints_at hv
        refine ⟨_, rfl, _, rfl, _, _, rfl, fig_int hcF, (by show 1 ≤ 640; decide), _, _, rfl, rfl, _, rfl, ?_⟩
        have flt : (nums.take (j + 1)).filter (fun n => decide (n ≤ digit c)) = (nums.take j).filter (fun n => decide (n ≤ digit c)) ++ (if decide (n ≤ digit c) = true then [n] else []) := by
          rw [take_snoc hn, List.filter_append]
          congr 1
          by_cases hd : n ≤ digit c <;> simp [hd]
        show if decide (n ≤ digit c) = true then _ else _
        by_cases hd : n ≤ digit c
        · rw [decide_eq_true hd] at flt ⊢
          refine iteT ⟨_, rfl, .inl ⟨rfl, _, SqL.of hl3⟩, _, rfl, _, rfl, _, rfl, z, rfl, Nat.le_trans hz5 (by decide), ?_⟩
          have hn1 := hl1 n (List.mem_of_getElem? hn)
          have hk0 : 0 ≤ digit c - n := by omega
          have hk9 : digit c - n ≤ 9 := by unfold digit; omega
          have hfs := fig_str hk0 hk9
          have lt1 : (cutS z none (some (i : Int))).length ≤ 5 := Nat.le_trans (cutS_length _ _ _) hz5
          have lt2 : (cutS z (some ((i : Int) + 1)) none).length ≤ 5 := Nat.le_trans (cutS_length _ _ _) hz5
          refine ⟨_, rfl, _, _, rfl, fig_int hcF, (by show 1 ≤ 640; decide), _, rfl, _, _, rfl, rfl, _, rfl, Nat.lt_of_le_of_lt (Nat.log2_le_self _) (by omega), ?_⟩
          refine ⟨_, _, rfl, rfl, ?_, ?_⟩
          · rw [hfs, figT_len]
            exact Nat.le_trans (by omega : _ ≤ 6) (by decide)
          refine ⟨_, rfl, _, rfl, _, _, rfl, rfl, _, rfl, z, rfl, Nat.le_trans hz5 (by decide), _, _, rfl, rfl, ?_, f, _, _, rfl, rfl, hl3, ?_, ?_⟩
          · rw [hfs, str_len_app, figT_len]
            exact Nat.le_trans (by omega : _ ≤ 11) (by decide)
          · have b1 := genT_len nums z i
            have b2 : (((nums.take j).filter fun n => decide (n ≤ digit c)).map fun n => midT z i (figT (digit c - n))).length ≤ 9 := by
              rw [List.length_map]
              refine Nat.le_trans (List.length_filter_le _ _) ?_
              rw [List.length_take]
              omega
            have b3 : i * nums.length ≤ 5 * 9 := Nat.mul_le_mul (by omega) hl9
            rw [List.length_map, List.length_append]
            exact small1000 (by omega)
          · refine ⟨_, rfl, e3.mut hf, ?_⟩
            rw [upd_same, flt, hfs]
            simp [midT]
        · rw [decide_eq_false hd] at flt ⊢
          refine iteF ⟨_, rfl, e3, ?_⟩
          rw [hl3, flt]
          simp
      · rintro σ H2 ⟨x, rfl, e3, hl3⟩
        refine ⟨_, _, _, rfl, e3, ?_⟩
        rw [hl3, genT_succ, List.length_map, List.take_length]
        unfold turnT
        rw [hgd]
    · rintro σ H1 ⟨a, b, c, rfl, e, hl⟩
      exact ⟨_, rfl, k' H1 f e hf hl⟩
end
end K73
namespace K73
open PySem L2
section
variable {P : Program} {w : World} {K : PySem.W.Frag} {mg : Str → Option Value} {base : Heap} {A : Ad}
theorem ok_moves (T : Txt K mg A) {C fB fC : Addr} {fdB fdC : FuncData} {O : Hp → Addr → Prop} {good : V → Bool} {chg : Bool → Str → List Str} (cl : Cls K C)
    (hB : Meth K C "is_board" fB) (GB : FnOk P w K mg base CX0 3 fB fdB ["self", "board"] (spIsB K O good)) (bB : Binds K fdB ["self", "board"] [])
    (hC : Meth K C "changed" fC) (GC : FnOk P w K mg base CX0 3 fC fdC ["self", "board", "hand"] (spChg O good chg)) (bC : Binds K fdC ["self", "board", "hand"] [])
    (hO : ∀ H p, O H p → ∃ dx fs, H p = some (.ins C dx fs) ∧ fs.lookup ("is_board" : Str) = none ∧ fs.lookup ("changed" : Str) = none) (hS : ∀ H H' p, O H p → Same H H' → O H' p)
    (hg : ∀ v, good v = true → ∃ z, v = .str z) (hl : ∀ u z, good (.str z) = true → (chg u z).length < 64) :
    FnOk P w K mg base (L2.CX P w) 4 A.fRule_moves A.dRule_moves ["self", "board", "hand"] (spMoves K O good chg (.ref A.cNoBoard) (.ref A.cNoHand)) := by
  refine T.FRule_moves.okX scRule_moves (fun vs H Q E h => ?_) (fun cdv Ar outer s H vs Q E hr h => ?_)
  · obtain ⟨p, v, h, rfl, _⟩ := h
    rfl
  · obtain ⟨p, v, h, rfl, hOp, hv, hh, kB, kH, kQ⟩ := h
    refine ⟨_, (pss_cons (ps_if (pt_not (pt_val (pe_meth (pv 0) cl hB GB (hr.mono (by decide)) bB .nil pass0 (pa_cons (pv 1) pa_nil)))) (pss_one (ps_raise rfl (takes_of rfl rfl rfl rfl) (pmk_F T.xNoBoard T.mNoBoard))) pss_nil)
      (pss_cons (ps_if (PW.pt (pw_or (pt_not (pt_val (pe_callB call_isi (by rfl) T.z_isinstance boot_isi (pa_cons (pv 2) (pa_cons (pe_gT (n := "str") T.z_str) pa_nil))))) (pw_or1 (pt_cmpR op_notIn_seq (pv 2) (pe_gR T.kHANDS) (by rfl))))) (pss_one (ps_raise rfl (takes_of rfl rfl rfl rfl) (pmk_F T.xNoHand T.mNoHand))) pss_nil)
      (pss_one (ps_ret (pe_callB (SG.cr_sortS rfl) (by rfl) T.z_sorted (by decide +kernel) (pa_cons (pe_callTy (SG.cr_setL rfl) (by rfl) T.z_set (by decide +kernel) (pa_cons (pe_meth (pv 0) cl hC GC (hr.mono (by decide)) bC .nil pass0 (pa_cons (pv 1) (pa_cons (pv 2) pa_nil))) pa_nil)) pa_nil)))))), ?_⟩
    obtain ⟨dx, fs, hp, n1, n2⟩ := hO H p hOp
    refine ⟨_, rfl, p, dx, fs, rfl, hp, n1, _, rfl, p, v, rfl, hOp, hv, fun H1 e1 => ?_⟩
    refine ⟨_, rfl, ?_⟩
    cases hgv : good v with
    | false => exact kB hgv H1 e1
    | true =>
      obtain ⟨z, rfl⟩ := hg v hgv
      refine iteF ?_
      rcases hh with ⟨t, rfl⟩ | ⟨t, ty, kt⟩
      · refine ⟨_, rfl, _, _, _, _, true, rfl, .ty "str", .base (.str t), kit_ty (by decide +kernel), true, rfl, ?_⟩
        refine iteF ⟨_, rfl, A.aHANDS, _, rfl, .inr (sqT_K T.lHANDS), rfl, rfl, _, rfl, ?_⟩
        show if (!inV (.str t) [.str "up", .str "down"]) = true then _ else _
        cases hin : inV (.str t) [.str "up", .str "down"] with
        | false =>
          refine iteT (kH hgv (fun u z => ?_) H1 e1)
          cases z
          rw [(inV_hands _).mpr ⟨u, rfl⟩] at hin
          cases hin
        | true =>
          obtain ⟨u, rfl⟩ := (inV_hands t).mp hin
          refine iteF ?_
          obtain ⟨dx1, fs1, hp1, _, n3⟩ := hO H1 p (hS _ _ _ hOp e1)
          refine ⟨_, rfl, p, dx1, fs1, rfl, hp1, n3, _, rfl, _, rfl, p, z, u, rfl, hS _ _ _ hOp e1, hgv, fun H2 f e2 hf hf2 => ?_⟩
          have hlen := hl u z hgv
          refine ⟨f, (chg u z).map Sum.inr, rfl, by rw [inr_map]; exact SqL.of hf2, by rw [List.length_map]; exact hlen, fun q ks hq nd hm hkl => ?_⟩
          refine ⟨q, ks, rfl, upd_same, fun k hk => ?_, ?_, fun ys r hs hp hr => ?_⟩
          · obtain ⟨x, _, e⟩ := List.mem_map.mp ((hm k).mp hk)
            exact ⟨x, e.symm⟩
          · rw [List.length_map] at hkl
            omega
          · have e3 : Same H (upd H2 q (SG.SetO P w q ks)) := (e1.trans e2).trans (Same.new hq)
            exact kQ z u rfl hgv rfl _ r ys (e3.trans (Same.new hr)) (e3.free hr) (sortedOf_of hs hp nd hm) upd_same
      · refine ⟨_, rfl, _, _, _, _, false, rfl, .ty "str", e1.ty ty, kt, false, rfl, ?_⟩
        exact kH hgv (fun u z => by subst z; exact IsNot.str ⟨t, ty, kt⟩) H1 e1
theorem ok_tur_init (T : Txt K mg A) : FnOk P w K mg base (L2.CX P w) 1 A.fTurned___init__ A.dTurned___init__ ["self", "rule"] (spTurInit K A.cTurned A.cRule (.ref A.cNoRule)) := by
  refine T.FTurned___init__.okX scTurned___init__ (fun vs H Q E h => ?_) (fun cdv Ar outer s H vs Q E hr h => ?_)
  · obtain ⟨p, dx, v, t, b, rfl, _⟩ := h
    rfl
  · obtain ⟨p, dx, v, t, b, rfl, hp, ty, kt, kQ, kE⟩ := h
    refine ⟨_, (pss_cons (ps_if (pt_not (pt_val (pe_callB call_isi (by rfl) T.z_isinstance boot_isi (pa_cons (pv 1) (pa_cons (pe_gR T.mRule) pa_nil))))) (pss_one (ps_raise rfl (takes_of rfl rfl rfl rfl) (pmk_F T.xNoRule T.mNoRule))) pss_nil)
      (pss_one (ps_fld (pv 0) (pv 1) rfl))), ?_⟩
    refine ⟨_, rfl, _, _, _, _, b, rfl, .own A.cRule, ty, kt, b, rfl, ?_⟩
    cases b with
    | false => exact kE rfl
    | true => exact ⟨_, rfl, _, rfl, p, A.cTurned, dx, [], rfl, hp, T.clTurned, T.nTurned_inner, (by show 0 < 1000; decide), kQ rfl⟩
end
end K73
namespace K73
open PySem L2
section
variable {P : Program} {w : World} {K : PySem.W.Frag} {mg : Str → Option Value} {base : Heap} {A : Ad}
theorem ok_next (T : Txt K mg A) : FnOk P w K mg base CX0 1 A.flaw_next A.dlaw_next ["_law_state_here", "_law_many"] spLawNext := by
  refine T.Flaw_next.ok sclaw_next (fun vs H Q E h => ?_) (fun cdv Ar outer s H vs Q E hr h => ?_)
  · obtain ⟨a, s, m, rfl, _⟩ := h
    rfl
  · obtain ⟨a, x, m, rfl, ha, h0, h1, hm, k⟩ := h
    refine ⟨_, (pss_cons (ps_asg (pe_op op_mod (pe_op op_add (pe_op op_mul (pe_ix ix_list (pv 0) pe_int (fun _ _ => rfl)) pe_int) pe_int) pe_int) (pg_sub (pv 0) pe_int set_list))
      (pss_one (ps_ret (pe_op op_mod (pe_op op_fdiv (pe_ix ix_list (pv 0) pe_int (fun _ _ => rfl)) pe_int) (pv 1))))), ?_⟩
    refine ⟨_, rfl, a, _, _, _, rfl, rfl, SqL.of ha, rfl, _, _, rfl, rfl, .inl ⟨by omega, by omega⟩, _, _, rfl, rfl, _, _, rfl, rfl, (by show (0 : Int) < 2147483647; decide), ?_⟩
    refine ⟨_, rfl, a, _, _, 0, rfl, rfl, ha, rfl, ?_⟩
    refine ⟨_, rfl, a, _, _, _, rfl, rfl, SqL.of upd_same, rfl, _, _, rfl, rfl, ⟨by decide, by decide⟩, _, rfl, _, _, rfl, rfl, by omega, ?_⟩
    exact k _ _ (Int.emod_nonneg _ (by decide)) (Int.lt_trans (Int.emod_lt_of_pos _ (by decide)) (by decide)) (Int.emod_nonneg _ (by omega)) (Int.emod_lt_of_pos _ (by omega))
theorem ok_cell (T : Txt K mg A) : FnOk P w K mg base CX0 1 A.flaw_cell A.dlaw_cell ["_law_script", "_law_k"] (spLawCell K) := by
  refine T.Flaw_cell.ok sclaw_cell (fun vs H Q E h => ?_) (fun cdv Ar outer s H vs Q E hr h => ?_)
  · obtain ⟨a, k, ns, rfl, _⟩ := h
    rfl
  · obtain ⟨a, k, ns, rfl, ha, h0, _, kQ⟩ := h
    refine ⟨_, (pss_cons (ps_if (pt_cmpR op_lt (pv 1) (pe_callB call_len_seq (by rfl) T.z_len PySem.boot_len (pa_cons (pv 0) pa_nil)) (nomark _)) (pss_one (ps_ret (pe_ix ix_list (pv 0) (pv 1) (fun _ _ => rfl)))) pss_nil)
      (pss_one (ps_ret pe_int))), ?_⟩
    refine ⟨_, rfl, _, rfl, a, _, rfl, .inl ha, _, _, rfl, rfl, _, rfl, ?_⟩
    by_cases hk : k < (ns.length : Int)
    · have e : decide (k < ((ns.map V.int).length : Int)) = true := by rw [List.length_map]; exact decide_eq_true hk
      show if decide (k < ((ns.map V.int).length : Int)) = true then _ else _
      rw [e]
      have hg : (ns.map V.int)[k.toNat]? = some (.int (ns.getD k.toNat 0)) := by
        rw [List.getElem?_map, List.getD_eq_getElem?_getD, List.getElem?_eq_getElem (by omega)]
        rfl
      refine iteT ⟨_, rfl, _, rfl, a, _, _, _, rfl, rfl, ha, at_of (by omega) hg, kQ⟩
    · have e : decide (k < ((ns.map V.int).length : Int)) = false := by rw [List.length_map]; exact decide_eq_false hk
      show if decide (k < ((ns.map V.int).length : Int)) = true then _ else _
      rw [e]
      refine iteF ?_
      rw [List.getD_eq_getElem?_getD, List.getElem?_eq_none (by omega)] at kQ
      exact kQ
theorem ok_state (T : Txt K mg A) : FnOk P w K mg base CX0 1 A.flaw_state A.dlaw_state ["_law_cell_here", "_law_k"] spLawState := by
  refine T.Flaw_state.ok sclaw_state (fun vs H Q E h => ?_) (fun cdv Ar outer s H vs Q E hr h => ?_)
  · obtain ⟨c, k, rfl, _⟩ := h
    rfl
  · obtain ⟨c, k, rfl, h0, h63, kQ⟩ := h
    refine ⟨_, (pss_cons (ps_set (i := 2) sclaw_state.nd rfl (Or.inl rfl) (pe_op op_mod (pe_op op_add (pe_op op_add (pe_op op_mul (pv 0) pe_int) (pe_op op_mul (pv 1) pe_int)) pe_int) pe_int))
      (pss_one (ps_ret (pe_lst (pa_cons (pe_op op_add pe_int (pe_op op_mod (pe_op op_add (pe_op op_mul (pv 2) (pv 2)) (pe_op op_mul pe_int (pv 1))) pe_int)) pa_nil))))), ?_⟩
    refine ⟨_, rfl, _, _, rfl, rfl, .inr ⟨by decide, by decide⟩, _, rfl, _, _, rfl, rfl, .inr ⟨by decide, by decide⟩, _, _, rfl, rfl, _, _, rfl, rfl, _, _, rfl, rfl, (by show (0 : Int) < 2147483647; decide), ?_⟩
    have m0 := Int.emod_nonneg (c * 48271 + k * 104729 + 7919) (show (2147483647 : Int) ≠ 0 by decide)
    have m1 := Int.emod_lt_of_pos (c * 48271 + k * 104729 + 7919) (show (0 : Int) < 2147483647 by decide)
    refine ⟨_, rfl, _, rfl, _, _, rfl, rfl, .inl ⟨by omega, by omega⟩, _, rfl, _, _, rfl, rfl, .inl ⟨by decide, by decide⟩, _, _, rfl, rfl, _, _, rfl, rfl, (by show (0 : Int) < 2147483629; decide), _, _, rfl, rfl, ?_⟩
    refine ⟨by show 1 ≤ sizeLine; decide, fun l hl => ?_⟩
    refine kQ _ l ?_ ?_ hl
    · have := Int.emod_nonneg ((c * 48271 + k * 104729 + 7919) % 2147483647 * ((c * 48271 + k * 104729 + 7919) % 2147483647) + 69621 * k) (show (2147483629 : Int) ≠ 0 by decide)
      omega
    · have := Int.emod_lt_of_pos ((c * 48271 + k * 104729 + 7919) % 2147483647 * ((c * 48271 + k * 104729 + 7919) % 2147483647) + 69621 * k) (show (0 : Int) < 2147483629 by decide)
      omega
theorem ok_told (T : Txt K mg A) {C fM : Addr} {fdM : FuncData} {O : Hp → Addr → Prop} {good : V → Bool} {chg : Bool → Str → List Str} (cl : Cls K C) (hM : Meth K C "moves" fM)
    (GM : FnOk P w K mg base (L2.CX P w) 4 fM fdM ["self", "board", "hand"] (spMoves K O good chg (.ref A.cNoBoard) (.ref A.cNoHand))) (bM : Binds K fdM ["self", "board", "hand"] [])
    (hO : ∀ H p, O H p → ∃ dx fs, H p = some (.ins C dx fs) ∧ fs.lookup ("moves" : Str) = none) :
    FnOk P w K mg base CX0 5 A.flaw_told A.dlaw_told ["_law_rule", "_law_board", "_law_hand"] (spLawTold K O good chg) := by
  refine T.Flaw_told.ok sclaw_told (fun vs H Q E h => ?_) (fun cdv Ar outer s H vs Q E hr h => ?_)
  · obtain ⟨p, v, h, rfl, _⟩ := h
    rfl
  · obtain ⟨p, v, h, rfl, hOp, hv, hh, kB, kH, kQ⟩ := h
    refine ⟨_, (pss_cons (ps_set (i := 3) sclaw_told.nd rfl (Or.inl rfl) pe_non)
      (pss_cons (ps_set (i := 4) sclaw_told.nd rfl (Or.inl rfl) pe_non)
      (pss_cons (ps_try_keep (i := 5) (j := 3) (c := .ref A.cDuelError) rfl rfl sclaw_told.nd rfl rfl rfl rfl rfl ⟨rfl, by decide, Or.inl T.mDuelError⟩ takes0 (by show 5 < 6; decide)
        (fun W pn xe tk po => (pss_one (ps_set (i := 4) sclaw_told.nd rfl (Or.inl rfl) (pe_methW (pv 0) cl hM GM (hr.mono (by decide)) bM (fun σ => passAt tk σ) (pa_cons (pv 1) (pa_cons (pv 2) pa_nil)))))))
      (pss_cons (ps_if (pt_cmpR op_isN (pv 3) pe_non (nomark _)) (pss_one (ps_ret (pv 4))) pss_nil)
      (pss_cons (ps_if (pt_cmpR op_eq (pe_callB call_isH (by rfl) T.z_isinstance boot_isi (pa_cons (pv 3) (pa_cons (pe_gR T.mNoBoard) pa_nil))) (pe_callB call_isH (by rfl) T.z_isinstance boot_isi (pa_cons (pv 3) (pa_cons (pe_gR T.mNoHand) pa_nil))) (nomark _)) (pss_one (ps_ret pe_str)) pss_nil)
      (pss_one (ps_ret (pe_ix ix_list (pe_lst (pa_cons pe_str (pa_cons pe_str pa_nil))) (pe_callTy call_int1 (by rfl) T.z_int (by decide +kernel) (pa_cons (pe_callB call_isH (by rfl) T.z_isinstance boot_isi (pa_cons (pv 3) (pa_cons (pe_gR T.mNoHand) pa_nil))) pa_nil)) (fun _ _ => rfl))))))))), ?_⟩
    obtain ⟨dx, fs, hp, n1⟩ := hO H p hOp
    refine ⟨_, rfl, p, dx, fs, rfl, hp, n1, _, rfl, _, rfl, p, v, h, rfl, hOp, hv, hh, fun hg H1 e1 => ?_, fun hg hn H1 e1 => ?_, fun z u ev hg eh H1 l ys e1 hl so hl1 => ?_⟩
    · refine ⟨true, T.yNoBoard_DuelError, fun _ => ⟨rfl, fun a ha => ?_⟩, fun q => nomatch q⟩
      have e2 : Same H (upd H1 a (ExH (.ref A.cNoBoard) a)) := e1.trans (Same.new ha)
      refine ⟨_, rfl, rfl, _, rfl, ?_⟩
      refine iteF ⟨_, rfl, a, A.cNoBoard, _, _, true, rfl, upd_same, T.xNoBoard.c, fun _ q => q, T.wNoBoard_NoBoard, _, rfl, a, A.cNoBoard, _, _, false, rfl, upd_same, T.xNoBoard.c, fun _ q => q, T.wNoBoard_NoHand, rfl, _, rfl, ?_⟩
      refine iteF ⟨by show 2 ≤ sizeLine; decide, fun l hl => ⟨_, rfl, a, A.cNoBoard, _, _, false, rfl, (by rw [upd_ne (ne_of_none upd_same hl)]; exact upd_same), T.xNoBoard.c, fun _ q => q, T.wNoBoard_NoHand, .inr ⟨_, rfl, ?_⟩⟩⟩
      exact ⟨l, _, _, _, rfl, rfl, SqL.of upd_same, rfl, kB hg _ (e2.trans (Same.new hl))⟩
    · refine ⟨true, T.yNoHand_DuelError, fun _ => ⟨rfl, fun a ha => ?_⟩, fun q => nomatch q⟩
      have e2 : Same H (upd H1 a (ExH (.ref A.cNoHand) a)) := e1.trans (Same.new ha)
      refine ⟨_, rfl, rfl, _, rfl, ?_⟩
      refine iteF ⟨_, rfl, a, A.cNoHand, _, _, false, rfl, upd_same, T.xNoHand.c, fun _ q => q, T.wNoHand_NoBoard, _, rfl, a, A.cNoHand, _, _, true, rfl, upd_same, T.xNoHand.c, fun _ q => q, T.wNoHand_NoHand, rfl, _, rfl, ?_⟩
      refine iteF ⟨by show 2 ≤ sizeLine; decide, fun l hl => ⟨_, rfl, a, A.cNoHand, _, _, true, rfl, (by rw [upd_ne (ne_of_none upd_same hl)]; exact upd_same), T.xNoHand.c, fun _ q => q, T.wNoHand_NoHand, .inr ⟨_, rfl, ?_⟩⟩⟩
      exact ⟨l, _, _, _, rfl, rfl, SqL.of upd_same, rfl, kH hg hn _ (e2.trans (Same.new hl))⟩
    · refine ⟨_, rfl, rfl, _, rfl, ?_⟩
      exact iteT ⟨_, rfl, kQ z u ev hg eh H1 l ys e1 hl so hl1⟩
theorem ok_numbers (T : Txt K mg A) : FnOk P w K mg base CX0 1 A.flaw_numbers A.dlaw_numbers ["_law_cell_here"] spLawNumbers := by
  refine T.Flaw_numbers.ok sclaw_numbers (fun vs H Q E h => ?_) (fun cdv Ar outer s H vs Q E hr h => ?_)
  · obtain ⟨c, rfl, _⟩ := h
    rfl
  · obtain ⟨c, rfl, k⟩ := h
    refine ⟨_, (pss_cons (ps_set (i := 1) sclaw_numbers.nd rfl (Or.inl rfl) (pe_lst pa_nil))
      (pss_cons (ps_for PassesOwn.never rfl (pi_range2 (by rfl) T.z_range (pa_cons pe_int (pa_cons pe_int pa_nil))) (pg_name (i := 2) sclaw_numbers.nd rfl (Or.inl rfl))
        (pss_cons (ps_if (pt_cmpR op_eq (pe_op op_mod (pv 0) pe_int) pe_int (nomark _)) (pss_one (ps_expr (pe_bm PySem.F.plainAttrs_list PySem.F.slot_list_append PySem.F.type_list_append mt_append (pv 1) (pa_cons (pv 2) pa_nil)))) pss_nil)
        (pss_one (ps_set (i := 0) sclaw_numbers.nd rfl (Or.inl rfl) (pe_op op_fdiv (pv 0) pe_int)))))
      (pss_one (ps_ret (pv 1))))), ?_⟩
    refine ⟨Nat.zero_le _, fun f hf => ?_⟩
    refine ⟨1, 10, rfl, by decide, for_range (lo := 1) (n := 9) (fun i σ H' => ∃ (d : Int) (v : Option V) (ns : List Int), σ = [some (.int d), some (.ref f), v] ∧ Same H H' ∧ H' f = some (.lst (ns.map V.int)) ∧ ns.Pairwise (· < ·) ∧ (∀ n ∈ ns, 1 ≤ n ∧ n ≤ (i : Int)) ∧ ns.length ≤ i)
      ⟨c, _, [], rfl, Same.new hf, upd_same, List.Pairwise.nil, (fun n hn => by cases hn), Nat.le_refl _⟩ ?_ ?_⟩
    · rintro i σ H1 hi ⟨d, v, ns, rfl, e, hl, pw, hb, hlen⟩
      refine ⟨_, rfl, _, _, rfl, rfl, (by show (0 : Int) < 2; decide), rfl, _, rfl, ?_⟩
      refine ite2 (fun _ => ?_) (fun _ => ?_)
      · refine ⟨_, rfl, .inl ⟨rfl, _, SqL.of hl⟩, _, rfl, f, _, _, rfl, rfl, hl, (by rw [List.length_map]; exact small1000 (by omega)), ?_⟩
        refine ⟨_, rfl, _, _, rfl, rfl, ⟨by decide, by decide⟩, ?_⟩
        refine ⟨d / 2, _, ns ++ [1 + (i : Int)], rfl, e.mut hf, by rw [upd_same, List.map_append]; rfl, ?_, fun n hn => ?_, by rw [List.length_append, List.length_singleton]; omega⟩
        · rw [List.pairwise_append]
          refine ⟨pw, List.pairwise_singleton _ _, fun x hx y hy => ?_⟩
          rw [List.mem_singleton.mp hy]
          have := (hb x hx).2
          omega
        · rcases List.mem_append.mp hn with h | h
          · have := hb n h; omega
          · rw [List.mem_singleton.mp h]; omega
      · refine ⟨_, rfl, _, _, rfl, rfl, ⟨by decide, by decide⟩, ?_⟩
        exact ⟨d / 2, _, ns, rfl, e, hl, pw, fun n hn => by have := hb n hn; omega, by omega⟩
    · rintro σ H1 ⟨d, v, ns, rfl, e, hl, pw, hb, hlen⟩
      exact ⟨_, rfl, k ns H1 f ⟨pw, fun n hn => by have := hb n hn; omega⟩ hlen e hf hl⟩
end
end K73
namespace K73
open PySem L2
section
variable {P : Program} {w : World} {K : PySem.W.Frag} {mg : Str → Option Value} {base : Heap} {A : Ad}
theorem ok_lmoves (T : Txt K mg A) : FnOk P w K mg base CX0 1 A.flaw_moves A.dlaw_moves ["_law_numbers_here", "_law_board"] (spLawMovesT K) := by
  refine T.Flaw_moves.ok sclaw_moves (fun vs H Q E h => ?_) (fun cdv Ar outer s H vs Q E hr h => ?_)
  · obtain ⟨a, z, ns, rfl, _⟩ := h
    rfl
  · obtain ⟨a, z, ns, rfl, ha, hl9, hn1, hz, k⟩ := h
    obtain ⟨hz5, hfig⟩ := goodT_str hz
    have hzl : z.length ≤ sizeLine := Nat.le_trans hz5 (by decide)
    refine ⟨_, (pss_cons (ps_set (i := 2) sclaw_moves.nd rfl (Or.inl rfl) pe_dnewK)
      (pss_cons (ps_for PassesOwn.never rfl (pi_range1 (by rfl) T.z_range (pa_cons (pe_callB call_len_str (by rfl) T.z_len PySem.boot_len (pa_cons (pv 1) pa_nil)) pa_nil)) (pg_name (i := 3) sclaw_moves.nd rfl (Or.inl rfl))
        (pss_cons (ps_set (i := 4) sclaw_moves.nd rfl (Or.inl rfl) (pe_bm PySem.F.plainAttrs_str PySem.F.slot_str_index PySem.F.type_str_index mt_sindex pe_str (pa_cons (pe_ix ix_str (pv 1) (pv 3) (fun _ _ => rfl)) pa_nil)))
        (pss_one (ps_for PassesOwn.never rfl (pi_list (pv 0)) (pg_name (i := 5) sclaw_moves.nd rfl (Or.inl rfl))
          (pss_one (ps_if (pt_cmpR op_ge (pv 4) (pv 5) (nomark _)) (pss_cons (ps_set (i := 6) sclaw_moves.nd rfl (Or.inl rfl) (pe_ix ix_str pe_str (pe_op op_sub (pv 4) (pv 5)) (fun _ _ => rfl)))
            (pss_one (ps_dput (hu_of hr) (pv 2) (pe_op op_add_str (pe_op op_add_str (pe_slice sl_str (pv 1) po_none (po_some (pv 3))) (pv 6)) (pe_slice sl_str (pv 1) (po_some (pe_op op_add (pv 3) pe_int)) po_none)) pe_bl rfl))) pss_nil))))))
      (pss_one (ps_ret (pe_callB cr_sortedS (by rfl) T.z_sorted (by decide +kernel) (pa_cons (pe_callTy (call_listD rfl) (by rfl) T.z_list (by decide +kernel) (pa_cons (pv 2) pa_nil)) pa_nil)))))), ?_⟩
    refine fun f hf => ?_
    refine ⟨_, rfl, z, rfl, hzl, _, rfl, by omega, by omega, for_range (lo := 0) (n := z.length) (fun i σ H' => ∃ (x1 x2 x3 x4 : Option V) (kvs : List (Key × V)), σ = [some (.ref a), some (.str z), some (.ref f), x1, x2, x3, x4] ∧ Same H H' ∧ H' f = some (.dK kvs) ∧ KeysOf kvs (genT ns z i) ∧ kvs.length ≤ i * 9)
      ⟨_, _, _, _, [], rfl, Same.new hf, upd_same, KeysOf.nil, Nat.zero_le _⟩ ?_ ?_⟩
    · rintro i σ H1 hi ⟨x1, x2, x3, x4, kvs, rfl, e, hd, hk, hlen⟩
      obtain ⟨c, hc⟩ : ∃ c, z.cps[i]? = some c := ⟨_, Array.getElem?_eq_getElem hi⟩
      have hcF := hfig i c hc
      obtain ⟨c1, c2⟩ := fig_mem hcF
      have hgd : z.cps.toList.getD i 0 = c := by rw [List.getD_eq_getElem?_getD, cps_at hc]; rfl
      have edig : ((c - 48 : Nat) : Int) = digit c := by unfold digit; omega
      have h0i : (0 : Int) + (i : Int) = (i : Int) := Int.zero_add _
      refine ⟨rfl, _, rfl, _, rfl, _, _, c, rfl, rfl, hzl, (by rw [h0i]; exact atI_nat (cps_at hc)), _, _, _, _, rfl, rfl, fig_occ hcF, ?_⟩
      refine ⟨_, rfl, a, rfl, ⟨_, e.seq ha⟩, for_list (K := K) (a := a) (xs := ns.map V.int) (fun j σ H' => ∃ (x3 x4 : Option V) (kvs : List (Key × V)), σ = [some (.ref a), some (.str z), some (.ref f), some (.int (0 + (i : Int))), some (.int ((c - 48 : Nat) : Int)), x3, x4] ∧ Same H H' ∧ H' f = some (.dK kvs) ∧
          KeysOf kvs (genT ns z i ++ ((ns.take j).filter fun n => decide (n ≤ digit c)).map fun n => midT z i (figT (digit c - n))) ∧ kvs.length ≤ i * 9 + j)
          ⟨_, _, kvs, rfl, e, hd, by simpa using hk, by omega⟩ (fun j σ H' _ ⟨_, _, _, _, e', _⟩ => e'.seq ha) ?_ ?_⟩
      · rintro j v σ H2 hv ⟨x3, x4, kvs, rfl, e3, hd3, hk3, hlen3⟩
        obtain ⟨n, hn, rfl⟩ := ints_at hv
        have hj : j < ns.length := (List.getElem?_eq_some_iff.mp hn).1
        have flt : (ns.take (j + 1)).filter (fun n => decide (n ≤ digit c)) = (ns.take j).filter (fun n => decide (n ≤ digit c)) ++ (if decide (n ≤ digit c) = true then [n] else []) := by
          rw [take_snoc hn, List.filter_append]
          congr 1
          by_cases hd : n ≤ digit c <;> simp [hd]
        refine ⟨_, rfl, _, rfl, _, _, rfl, rfl, _, rfl, ?_⟩
        show if decide (n ≤ ((c - 48 : Nat) : Int)) = true then _ else _
        rw [edig]
        by_cases hdn : n ≤ digit c
        · rw [decide_eq_true hdn] at flt ⊢
          have hn0 := hn1 n (List.mem_of_getElem? hn)
          have hk0 : 0 ≤ digit c - n := by omega
          have hk9 : digit c - n ≤ 9 := by unfold digit; omega
          have lt1 : (cutS z none (some (i : Int))).length ≤ 5 := Nat.le_trans (cutS_length _ _ _) hz5
          have lt2 : (cutS z (some ((i : Int) + 1)) none).length ≤ 5 := Nat.le_trans (cutS_length _ _ _) hz5
          refine iteT ⟨_, rfl, _, rfl, _, _, rfl, rfl, _, _, _, rfl, rfl, (by decide), fig_at hk0 hk9, ?_⟩
          refine ⟨_, rfl, _, rfl, _, rfl, _, rfl, z, rfl, hzl, _, rfl, _, _, rfl, rfl, ?_, ?_⟩
          · rw [h0i]
            show _ + 1 ≤ _
            exact Nat.le_trans (by omega : _ ≤ 6) (by decide)
          refine ⟨_, rfl, _, rfl, _, _, rfl, rfl, _, rfl, z, rfl, hzl, _, _, rfl, rfl, ?_, ?_⟩
          · rw [h0i, str_len_app]
            show _ + 1 + _ ≤ _
            exact Nat.le_trans (by omega : _ ≤ 11) (by decide)
          rw [h0i]
          refine ⟨f, _, rfl, DPut.k (k := Sum.inr (midT z i (figT (digit c - n)))) hd3 (small1000 (by have : i * 9 ≤ 5 * 9 := Nat.mul_le_mul_right 9 (by omega); omega)), ?_⟩
          refine ⟨_, _, _, rfl, e3.mut hf, upd_same, ?_, ?_⟩
          · rw [flt]
            simpa using hk3.put (midT z i (figT (digit c - n))) (.bl true)
          · have := length_putK kvs (Sum.inr (midT z i (figT (digit c - n)))) (.bl true)
            omega
        · rw [decide_eq_false hdn] at flt ⊢
          refine iteF ⟨_, _, kvs, rfl, e3, hd3, ?_, by omega⟩
          rw [flt]
          simpa using hk3
      · rintro σ H2 ⟨x3, x4, kvs, rfl, e3, hd3, hk3, hlen3⟩
        refine ⟨_, _, _, _, kvs, rfl, e3, hd3, ?_, ?_⟩
        · rw [List.length_map, List.take_length] at hk3
          rw [genT_succ]
          unfold turnT
          rw [hgd]
          exact hk3
        · rw [List.length_map] at hlen3
          omega
    · rintro σ H1 ⟨x1, x2, x3, x4, kvs, rfl, e, hd, hk, hlen⟩
      obtain ⟨ts, e1, nd, hm, hlt⟩ := hk.list
      refine ⟨_, rfl, f, kvs, rfl, .inl hd, fun l hl => ?_⟩
      rw [e1]
      refine ⟨l, ts, rfl, SqL.of upd_same, by omega, fun ys q hp hs hq => ?_⟩
      have e2 := (e.trans (Same.new (o := .lst (ts.map V.str)) hl)).trans (Same.new (o := .lst (ys.map V.str)) hq)
      exact k _ q ys e2 ((e.trans (Same.new hl)).free hq) (sortedOf_perm hs hp nd hm) upd_same
end
end K73
namespace K73
open PySem L2
section
variable {P : Program} {w : World} {K : PySem.W.Frag} {mg : Str → Option Value} {base : Heap} {A : Ad}
/-- the rule of takings, its turned one -/
def OT (A : Ad) (ups downs : List Int) : Hp → Addr → Prop := fun H p => TakAt A.cTakings H p (ups.map V.int) (downs.map V.int)
def OR (A : Ad) (ups downs : List Int) : Hp → Addr → Prop := TurAt A.cTurned (OT A ups downs)
def chT (ups downs : List Int) (u : Bool) (z : Str) : List Str := genT (if u = true then ups else downs) z z.length
theorem OT.same {ups downs : List Int} {H H' : Hp} {p : Addr} (h : OT A ups downs H p) (e : Same H H') : OT A ups downs H' p := TakAt.same h e
theorem OR.same {ups downs : List Int} {H H' : Hp} {p : Addr} (h : OR A ups downs H p) (e : Same H H') : OR A ups downs H' p := let ⟨dx, q, h1, h2⟩ := h; ⟨dx, q, e _ _ h1, h2.same e⟩
structure Nums (ns : List Int) : Prop where
  len : ns.length ≤ 9
  one : ∀ n ∈ ns, 1 ≤ n
theorem chT_len {ups downs : List Int} (hu : Nums ups) (hd : Nums downs) (u : Bool) {z : Str} (h : goodT (.str z) = true) : (chT ups downs u z).length < 64 := by
  have h5 := (goodT_str h).1
  have hl : (if u = true then ups else downs).length ≤ 9 := by split; exact hu.len; exact hd.len
  have := genT_len (if u = true then ups else downs) z z.length
  have : z.length * (if u = true then ups else downs).length ≤ 5 * 9 := Nat.mul_le_mul h5 hl
  unfold chT
  omega
theorem goodT_is (v : V) (h : goodT v = true) : ∃ z, v = .str z := by
  cases v <;> first | exact ⟨_, rfl⟩ | exact absurd h Bool.false_ne_true
theorem ok_tur_is_board (T : Txt K mg A) (ups downs : List Int) : FnOk P w K mg base CX0 3 A.fTurned_is_board A.dTurned_is_board ["self", "board"] (spIsB K (OR A ups downs) goodT) := by
  have GTakings_is_board : FnOk P w K mg base CX0 1 A.fTakings_is_board A.dTakings_is_board ["self", "board"] (spIsB K (OT A ups downs) goodT) := ok_tak_is_board T _
  refine T.FTurned_is_board.ok scTurned_is_board (fun vs H Q E h => ?_) (fun cdv Ar outer s H vs Q E hr h => ?_)
  · obtain ⟨p, v, rfl, _⟩ := h
    rfl
  · obtain ⟨p, v, rfl, hO, hv, k⟩ := h
    refine ⟨_, (pss_one (ps_ret (pe_meth (pe_fld (pv 0) rfl) T.clTakings T.hTakings_is_board GTakings_is_board (hr.mono (by decide)) T.BTakings_is_board .nil pass0 (pa_cons (pv 1) pa_nil)))), ?_⟩
    obtain ⟨dx, q, hp, hq⟩ := id hO
    obtain ⟨dy, t, l, m, h1, _⟩ := id hq
    exact ⟨_, rfl, p, A.cTurned, dx, _, _, rfl, hp, T.clTurned, T.nTurned_inner, rfl, q, dy, _, rfl, h1, rfl, _, rfl, q, v, rfl, hq, hv, fun H' e => k H' e⟩
theorem ok_tur_changed (T : Txt K mg A) (ups downs : List Int) (hu : Nums ups) (hd : Nums downs) : FnOk P w K mg base CX0 3 A.fTurned_changed A.dTurned_changed ["self", "board", "hand"] (spChg (OR A ups downs) goodT fun u z => chT ups downs (!u) z) := by
  have GTakings_changed : FnOk P w K mg base CX0 1 A.fTakings_changed A.dTakings_changed ["self", "board", "hand"] (spChg (OT A ups downs) goodT (chT ups downs)) := ok_tak_changed T ups downs hu.len hd.len hu.one hd.one
  refine T.FTurned_changed.ok scTurned_changed (fun vs H Q E h => ?_) (fun cdv Ar outer s H vs Q E hr h => ?_)
  · obtain ⟨p, z, u, rfl, _⟩ := h
    rfl
  · obtain ⟨p, z, u, rfl, hO, hz, k⟩ := h
    refine ⟨_, (pss_one (ps_ret (pe_meth (pe_fld (pv 0) rfl) T.clTakings T.hTakings_changed GTakings_changed (hr.mono (by decide)) T.BTakings_changed .nil pass0 (pa_cons (pv 1) (pa_cons (pe_ifExp (pt_cmpR op_eq (pv 2) pe_str (nomark _)) pe_str pe_str) pa_nil))))), ?_⟩
    obtain ⟨dx, q, hp, hq⟩ := id hO
    obtain ⟨dy, t, l, m, h1, _⟩ := id hq
    refine ⟨_, rfl, p, A.cTurned, dx, _, _, rfl, hp, T.clTurned, T.nTurned_inner, rfl, q, dy, _, rfl, h1, rfl, _, rfl, _, rfl, rfl, _, rfl, ?_⟩
    cases u
    · exact ⟨q, z, true, rfl, hq, hz, k⟩
    · exact ⟨q, z, false, rfl, hq, hz, k⟩
theorem ok_movesT (T : Txt K mg A) (ups downs : List Int) (hu : Nums ups) (hd : Nums downs) : FnOk P w K mg base (L2.CX P w) 4 A.fRule_moves A.dRule_moves ["self", "board", "hand"] (spMoves K (OT A ups downs) goodT (chT ups downs) (.ref A.cNoBoard) (.ref A.cNoHand)) :=
  ok_moves T T.clTakings T.hTakings_is_board ((ok_tak_is_board T _).mono (by decide)) T.BTakings_is_board T.hTakings_changed ((ok_tak_changed T ups downs hu.len hd.len hu.one hd.one).mono (by decide)) T.BTakings_changed
    (fun H p ⟨dx, t, l, m, h1, _⟩ => ⟨dx, _, h1, rfl, rfl⟩) (fun _ _ _ h e => h.same e) goodT_is (fun u z h => chT_len hu hd u h)
theorem ok_movesR (T : Txt K mg A) (ups downs : List Int) (hu : Nums ups) (hd : Nums downs) : FnOk P w K mg base (L2.CX P w) 4 A.fRule_moves A.dRule_moves ["self", "board", "hand"] (spMoves K (OR A ups downs) goodT (fun u z => chT ups downs (!u) z) (.ref A.cNoBoard) (.ref A.cNoHand)) :=
  ok_moves T T.clTurned T.hTurned_is_board (ok_tur_is_board T ups downs) T.BTurned_is_board T.hTurned_changed (ok_tur_changed T ups downs hu hd) T.BTurned_changed
    (fun H p ⟨dx, q, h1, _⟩ => ⟨dx, _, h1, rfl, rfl⟩) (fun _ _ _ h e => h.same e) goodT_is (fun u z h => chT_len hu hd (!u) h)
theorem ok_toldT (T : Txt K mg A) (ups downs : List Int) (hu : Nums ups) (hd : Nums downs) : FnOk P w K mg base CX0 5 A.flaw_told A.dlaw_told ["_law_rule", "_law_board", "_law_hand"] (spLawTold K (OT A ups downs) goodT (chT ups downs)) :=
  ok_told T T.clTakings T.hTakings_moves (ok_movesT T ups downs hu hd) T.BRule_moves (fun H p ⟨dx, t, l, m, h1, _⟩ => ⟨dx, _, h1, rfl⟩)
theorem ok_toldR (T : Txt K mg A) (ups downs : List Int) (hu : Nums ups) (hd : Nums downs) : FnOk P w K mg base CX0 5 A.flaw_told A.dlaw_told ["_law_rule", "_law_board", "_law_hand"] (spLawTold K (OR A ups downs) goodT fun u z => chT ups downs (!u) z) :=
  ok_told T T.clTurned T.hTurned_moves (ok_movesR T ups downs hu hd) T.BRule_moves (fun H p ⟨dx, q, h1, _⟩ => ⟨dx, _, h1, rfl⟩)
end
end K73
namespace K73
open PySem L2
def spLaw (K : PySem.W.Frag) : Sp := fun vs H Q _ => ∃ (a : Addr) (ns : List Int), vs = [.ref a] ∧ SqL K H a (ns.map V.int) ∧ ns.length ≤ 63 ∧ ∀ H', Q (.bl true) H'
section
variable {P : Program} {w : World} {K : PySem.W.Frag} {mg : Str → Option Value} {base : Heap} {A : Ad}
theorem ok_law (T : Txt K mg A) : FnOk P w K mg base CX0 12 A.flaw A.dlaw ["_law_script"] (spLaw K) := by
  have Glaw_cell : FnOk P w K mg base CX0 1 A.flaw_cell A.dlaw_cell ["_law_script", "_law_k"] (spLawCell K) := ok_cell T
  have Glaw_next : FnOk P w K mg base CX0 1 A.flaw_next A.dlaw_next ["_law_state_here", "_law_many"] spLawNext := ok_next T
  have Glaw_state : FnOk P w K mg base CX0 1 A.flaw_state A.dlaw_state ["_law_cell_here", "_law_k"] spLawState := ok_state T
  have Glaw_numbers : FnOk P w K mg base CX0 1 A.flaw_numbers A.dlaw_numbers ["_law_cell_here"] spLawNumbers := ok_numbers T
  have Glaw_moves : FnOk P w K mg base CX0 1 A.flaw_moves A.dlaw_moves ["_law_numbers_here", "_law_board"] (spLawMovesT K) := ok_lmoves T
  have GTakings___init__ : FnOk P w K mg base (L2.CX P w) 3 A.fTakings___init__ A.dTakings___init__ ["self", "ups", "downs"] (spTakInit K A.cTakings (.ref A.cNoRule)) := ok_tak_init T
  have GTurned___init__ : FnOk P w K mg base (L2.CX P w) 1 A.fTurned___init__ A.dTurned___init__ ["self", "rule"] (spTurInit K A.cTurned A.cRule (.ref A.cNoRule)) := ok_tur_init T
  have GTakings_is_board : FnOk P w K mg base CX0 1 A.fTakings_is_board A.dTakings_is_board ["self", "board"] (spIsB K (fun _ _ => True) goodT) := ok_tak_is_board T _
  have Glaw_told : FnOk P w K mg base CX0 5 A.flaw_told A.dlaw_told ["_law_rule", "_law_board", "_law_hand"] (fun vs H Q E => ∃ i : List Int × List Int, (Nums i.1 ∧ Nums i.2) ∧ spLawTold K (OT A i.1 i.2) goodT (chT i.1 i.2) vs H Q E) := FnOk.all fun i h => ok_toldT T _ _ h.1 h.2
  have GtoldR : FnOk P w K mg base CX0 5 A.flaw_told A.dlaw_told ["_law_rule", "_law_board", "_law_hand"] (fun vs H Q E => ∃ i : List Int × List Int, (Nums i.1 ∧ Nums i.2) ∧ spLawTold K (OR A i.1 i.2) goodT (fun u z => chT i.1 i.2 (!u) z) vs H Q E) := FnOk.all fun i h => ok_toldR T _ _ h.1 h.2
  refine T.Flaw.ok sclaw (fun vs H Q E h => ?_) (fun cdv Ar outer s H vs Q E hr h => ?_)
  · obtain ⟨a, ns, rfl, _⟩ := h
    rfl
  · obtain ⟨a, ns, rfl, hS, hlen, k⟩ := h
    refine ⟨_, (pss_cons (ps_set (i := 1) sclaw.nd rfl (Or.inl rfl) (pe_call Glaw_cell (hr.mono (by decide)) rfl T.mlaw_cell T.Flaw_cell.kp T.Blaw_cell .nil pass0 (pa_cons (pv 0) (pa_cons pe_int pa_nil))))
      (pss_cons (ps_set (i := 2) sclaw.nd rfl (Or.inl rfl) (pe_call Glaw_numbers (hr.mono (by decide)) rfl T.mlaw_numbers T.Flaw_numbers.kp T.Blaw_numbers .nil pass0 (pa_cons (pv 1) pa_nil)))
      (pss_cons (ps_set (i := 3) sclaw.nd rfl (Or.inl rfl) (pe_revL (pe_call Glaw_numbers (hr.mono (by decide)) rfl T.mlaw_numbers T.Flaw_numbers.kp T.Blaw_numbers .nil pass0 (pa_cons (pe_op op_fdiv (pv 1) pe_int) pa_nil))))
      (pss_cons (ps_set (i := 4) sclaw.nd rfl (Or.inl rfl) (pe_lst (pa_cons (pe_callTy call_list_of (by rfl) T.z_list (by decide +kernel) (pa_cons (pv 2) pa_nil)) (pa_cons (pe_callTy call_list_of (by rfl) T.z_list (by decide +kernel) (pa_cons (pv 3) pa_nil)) pa_nil))))
      (pss_cons (ps_set (i := 5) sclaw.nd rfl (Or.inl rfl) (pe_make T.mkTakings GTakings___init__ (hr.mono (by decide)) rfl T.mTakings T.BTakings___init__ .nil passL (pa_cons (pe_ix ix_list (pv 4) pe_int (fun _ _ => rfl)) (pa_cons (pe_ix ix_list (pv 4) pe_int (fun _ _ => rfl)) pa_nil))))
      (pss_cons (ps_expr (pe_bm PySem.F.plainAttrs_list PySem.F.slot_list_append PySem.F.type_list_append mt_append (pe_ix ix_list (pv 4) pe_int (fun _ _ => rfl)) (pa_cons pe_int pa_nil)))
      (pss_cons (ps_expr (pe_bm0 PySem.F.plainAttrs_list PySem.F.slot_list_clear PySem.F.type_list_clear mt_clear (pe_ix ix_list (pv 4) pe_int (fun _ _ => rfl))))
      (pss_cons (ps_for PassesOwn.never rfl (pi_range2 (by rfl) T.z_range (pa_cons pe_int (pa_cons (pe_callB call_len_seq (by rfl) T.z_len PySem.boot_len (pa_cons (pv 0) pa_nil)) pa_nil))) (pg_name (i := 6) sclaw.nd rfl (Or.inl rfl))
        (pss_cons (ps_set (i := 7) sclaw.nd rfl (Or.inr rfl) (pe_call Glaw_state (hr.mono (by decide)) rfl T.mlaw_state T.Flaw_state.kp T.Blaw_state .nil pass0 (pa_cons (pe_ix ix_list (pv 0) (pv 6) (fun _ _ => rfl)) (pa_cons (pv 6) pa_nil))))
        (pss_cons (ps_set (i := 8) sclaw.nd rfl (Or.inl rfl) (pe_join pe_str (pe_lc (own := [("_law_j", 12)]) (g := gName 12) (tt := tYes) rfl sclaw.nd (pi_range1 (by rfl) T.z_range (pa_cons (pe_call Glaw_next (hr.mono (by decide)) rfl T.mlaw_next T.Flaw_next.kp T.Blaw_next .nil pass0 (pa_cons (pv 7) (pa_cons pe_int pa_nil))) pa_nil)) (blkOk_by (N := ["_law_script", "_law_cell_here", "_law_ups", "_law_downs", "_law_handed", "_law_rule", "_law_k", "_law_state_here", "_law_board", "_law_hand", "_law_good", "_law_due", "_law_j", "_law_sign"]) (sc := defScope slaw) (by decide +kernel)) (fun _ _ _ _ _ => pg_name (i := 12) sclaw.nd rfl (Or.inl rfl)) (fun _ _ _ _ _ => pts_nil) (fun _ _ _ _ _ => (pe_ix ix_str pe_str (pe_call Glaw_next (hr.mono (by decide)) rfl T.mlaw_next T.Flaw_next.kp T.Blaw_next .nil pass0 (pa_cons (pv 7) (pa_cons pe_int pa_nil))) (fun _ _ => rfl))))))
        (C8.pss_cut (ps_if (pt_cmpR op_eq (pe_call Glaw_next (hr.mono (by decide)) rfl T.mlaw_next T.Flaw_next.kp T.Blaw_next .nil pass0 (pa_cons (pv 7) (pa_cons pe_int pa_nil))) pe_int (nomark _)) (pss_one (ps_set (i := 8) sclaw.nd rfl (Or.inl rfl) (pe_ix ix_list (pe_lst (pa_cons pe_non (pa_cons pe_int (pa_cons (pe_lst (pa_cons pe_str pa_nil)) (pa_cons pe_str (pa_cons pe_str (pa_cons pe_str (pa_cons pe_str (pa_cons pe_str pa_nil))))))))) (pe_call Glaw_next (hr.mono (by decide)) rfl T.mlaw_next T.Flaw_next.kp T.Blaw_next .nil pass0 (pa_cons (pv 7) (pa_cons pe_int pa_nil))) (fun _ _ => rfl)))) pss_nil)
        (C8.pss_cut (ps_set (i := 9) sclaw.nd rfl (Or.inl rfl) (pe_ix ix_list (pe_lst (pa_cons pe_str (pa_cons pe_str (pa_cons pe_str (pa_cons pe_str (pa_cons pe_str (pa_cons pe_non pa_nil))))))) (pe_call Glaw_next (hr.mono (by decide)) rfl T.mlaw_next T.Flaw_next.kp T.Blaw_next .nil pass0 (pa_cons (pv 7) (pa_cons pe_int pa_nil))) (fun _ _ => rfl)))
        (C8.pss_cut (ps_set (i := 10) sclaw.nd rfl (Or.inl rfl) (pe_and (pe_callB call_isi (by rfl) T.z_isinstance boot_isi (pa_cons (pv 8) (pa_cons (pe_gT (n := "str") T.z_str) pa_nil))) (pe_and (pe_cmpR op_lt (pe_callB call_len_str (by rfl) T.z_len PySem.boot_len (pa_cons (pv 8) pa_nil)) pe_int (nomark _)) (pe_one (pe_cmpR (op_eqD hr.units) (pe_lc (own := [("_law_sign", 13)]) (g := gName 13) rfl sclaw.nd (pi_str (pv 8)) (blkOk_by (N := ["_law_script", "_law_cell_here", "_law_ups", "_law_downs", "_law_handed", "_law_rule", "_law_k", "_law_state_here", "_law_board", "_law_hand", "_law_good", "_law_due", "_law_j", "_law_sign"]) (sc := defScope slaw) (by decide +kernel)) (fun _ _ _ _ _ => pg_name (i := 13) sclaw.nd rfl (Or.inl rfl)) (fun _ _ _ _ _ => (pts_one (pt_cmpR op_notIn_sign (pv 13) pe_str (by rfl)))) (fun _ _ _ _ _ => pe_int)) (pe_lst pa_nil) (nomark _))))))
        (pss_cons (ps_if (PW.pt (pw_or (pt_not (pt_val (pe_callB call_isi (by rfl) T.z_isinstance boot_isi (pa_cons (pe_meth (pv 5) T.clTakings T.hTakings_is_board GTakings_is_board (hr.mono (by decide)) T.BTakings_is_board .nil pass0 (pa_cons (pv 8) pa_nil)) (pa_cons (pe_gT (n := "bool") T.z_bool) pa_nil))))) (pw_or1 (pt_cmpR op_ne (pe_meth (pv 5) T.clTakings T.hTakings_is_board GTakings_is_board (hr.mono (by decide)) T.BTakings_is_board .nil pass0 (pa_cons (pv 8) pa_nil)) (pv 10) (nomark _))))) (pss_one (ps_ret pe_bl)) pss_nil)
        (C8.pss_cut (ps_set (i := 11) sclaw.nd rfl (Or.inl rfl) (pe_ix ix_list (pe_lst (pa_cons pe_str (pa_cons pe_str pa_nil))) (pe_callTy call_int1 (by rfl) T.z_int (by decide +kernel) (pa_cons (pe_not (pv 10)) pa_nil)) (fun _ _ => rfl)))
        (C8.pss_cut (ps_if (PW.pt (pw_and (pt_val (pv 10)) (pw_and1 (pt_cmpR op_in_seq (pv 9) (pe_lst (pa_cons pe_str (pa_cons pe_str pa_nil))) (by rfl))))) (pss_one (ps_set (i := 11) sclaw.nd rfl (Or.inl rfl) (pe_call Glaw_moves (hr.mono (by decide)) rfl T.mlaw_moves T.Flaw_moves.kp T.Blaw_moves .nil pass0 (pa_cons (pe_ix ix_list (pe_lst (pa_cons (pv 2) (pa_cons (pv 3) pa_nil))) (pe_callTy call_int1 (by rfl) T.z_int (by decide +kernel) (pa_cons (pe_cmpR op_eq (pv 9) pe_str (nomark _)) pa_nil)) (fun _ _ => rfl)) (pa_cons (pv 8) pa_nil))))) pss_nil)
        (pss_cons (ps_if (pt_cmpR (op_neD hr.units) (pe_call Glaw_told (hr.mono (by decide)) rfl T.mlaw_told T.Flaw_told.kp T.Blaw_told .nil pass0 (pa_cons (pv 5) (pa_cons (pv 8) (pa_cons (pv 9) pa_nil)))) (pv 11) (nomark _)) (pss_one (ps_ret pe_bl)) pss_nil)
        (pss_one (ps_if (PW.pt (pw_and (pt_cmpR op_in_seq (pv 9) (pe_lst (pa_cons pe_str (pa_cons pe_str pa_nil))) (by rfl)) (pw_and1 (pt_cmpR (op_neD hr.units) (pe_call GtoldR (hr.mono (by decide)) rfl T.mlaw_told T.Flaw_told.kp T.Blaw_told .nil pass0 (pa_cons (pe_make T.mkTurned GTurned___init__ (hr.mono (by decide)) rfl T.mTurned T.BTurned___init__ .nil passL (pa_cons (pv 5) pa_nil)) (pa_cons (pv 8) (pa_cons (pe_ix ix_list (pe_lst (pa_cons pe_str (pa_cons pe_str pa_nil))) (pe_callTy call_int1 (by rfl) T.z_int (by decide +kernel) (pa_cons (pe_cmpR op_eq (pv 9) pe_str (nomark _)) pa_nil)) (fun _ _ => rfl)) pa_nil)))) (pv 11) (nomark _))))) (pss_one (ps_ret pe_bl)) pss_nil))))))))))))
      (pss_one (ps_ret (pe_and (pe_callB call_isi (by rfl) T.z_isinstance boot_isi (pa_cons (pv 5) (pa_cons (pe_gR T.mRule) pa_nil))) (pe_and (pe_cmpR op_isBl (pe_meth (pv 5) T.clTakings T.hTakings_is_board GTakings_is_board (hr.mono (by decide)) T.BTakings_is_board .nil pass0 (pa_cons pe_str pa_nil)) pe_bl (nomark _)) (pe_one (pe_cmpR (op_eqD hr.units) (pe_call Glaw_told (hr.mono (by decide)) rfl T.mlaw_told T.Flaw_told.kp T.Blaw_told .nil pass0 (pa_cons (pv 5) (pa_cons pe_str (pa_cons pe_str pa_nil)))) (pe_lst pa_nil) (nomark _))))))))))))))), ?_⟩
    refine ⟨_, rfl, a, 0, ns, rfl, hS, Int.le_refl 0, hlen, ?_⟩
    generalize ns.getD (Int.toNat 0) 0 = c
    -- ups, downs
    refine ⟨_, rfl, c, rfl, fun ups H1 l1 r1 len1 e1 f1 h1 => ?_⟩
    refine ⟨_, rfl, _, _, rfl, rfl, ⟨by decide, by decide⟩, _, rfl, fun dn H2 l2 r2 len2 e2 f2 h2 => ?_⟩
    refine ⟨l2, _, rfl, SqL.of h2, fun p3 f3 => ?_⟩
    rw [← List.map_reverse]
    generalize hdr : dn.reverse = downs
    have gu : Nums ups := ⟨len1, fun n hn => (r1.2 n hn).1⟩
    have gd : Nums downs := ⟨by rw [← hdr, List.length_reverse]; exact len2, fun n hn => (r2.2 n (by rw [← hdr] at hn; exact List.mem_reverse.mp hn)).1⟩
    have nu : GoodNums (ups.map V.int) := goodNums_ints (r1.1.imp fun h => by omega) r1.2
    have nd : GoodNums (downs.map V.int) := goodNums_ints (by rw [← hdr]; exact (List.reverse_perm dn).nodup_iff.mpr (r2.1.imp fun h => by omega)) fun n hn => r2.2 n (by rw [← hdr] at hn; exact List.mem_reverse.mp hn)
    have e3 : Same H2 (upd H2 p3 (.lst (downs.map V.int))) := Same.new f3
    generalize hH3 : upd H2 p3 (.lst (downs.map V.int)) = H3 at e3
    have hu3 : H3 l1 = some (.lst (ups.map V.int)) := e3 _ _ (e2 _ _ h1)
    have hd3 : H3 p3 = some (.lst (downs.map V.int)) := by rw [← hH3, upd_same]
    have s3 : Same H H3 := (e1.trans e2).trans e3
    -- handed
    refine ⟨_, rfl, l1, _, rfl, .inl (SqL.of hu3), fun q1 g1 => ?_⟩
    have s4 := Same.new (o := .lst (ups.map V.int)) g1
    refine ⟨_, rfl, p3, _, rfl, .inl (SqL.of (s4 _ _ hd3)), fun q2 g2 => ?_⟩
    have s5 := Same.new (o := .lst (downs.map V.int)) g2
    refine ⟨by show 2 ≤ sizeLine; decide, fun hd gh => ?_⟩
    have s6 := Same.new (o := .lst [.ref q1, .ref q2]) gh
    have a1 : (upd (upd (upd H3 q1 (.lst (ups.map V.int))) q2 (.lst (downs.map V.int))) hd (.lst [.ref q1, .ref q2])) q1 = some (.lst (ups.map V.int)) := s6 _ _ (s5 _ _ upd_same)
    have a2 : (upd (upd (upd H3 q1 (.lst (ups.map V.int))) q2 (.lst (downs.map V.int))) hd (.lst [.ref q1, .ref q2])) q2 = some (.lst (downs.map V.int)) := s6 _ _ upd_same
    have a3 : (upd (upd (upd H3 q1 (.lst (ups.map V.int))) q2 (.lst (downs.map V.int))) hd (.lst [.ref q1, .ref q2])) hd = some (.lst [.ref q1, .ref q2]) := upd_same
    have n12 : q1 ≠ q2 := fun z => by rw [← z, upd_same] at g2; cases g2
    have nq1h : q1 ≠ hd := ne_of_none (s5 _ _ upd_same) gh
    have nq2h : q2 ≠ hd := ne_of_none upd_same gh
    have g23 : H3 q2 = none := s4.free g2
    have s46 := (s4.trans s5).trans s6
    generalize hH6 : upd (upd (upd H3 q1 (.lst (ups.map V.int))) q2 (.lst (downs.map V.int))) hd (.lst [.ref q1, .ref q2]) = H6 at a1 a2 a3 s46
    -- the rule
    refine ⟨_, rfl, hd, _, _, _, rfl, rfl, SqL.of a3, rfl, _, rfl, hd, _, _, _, rfl, rfl, SqL.of a3, rfl, fun x dx nx ndx nex => ?_⟩
    have s7 : Same H6 (upd (upd H6 dx (.own x)) x (.ins A.cTakings dx [])) := fun b o q => by
      rw [upd_ne (ne_of_none q nx), upd_ne (ne_of_none q ndx)]
      exact q
    refine ⟨x, dx, _, _, some (ups.map V.int), some (downs.map V.int), rfl, upd_same, ⟨q1, rfl, s7 _ _ a1, by rw [List.length_map]; exact Nat.le_trans gu.len (by decide), numV_ints⟩, ⟨q2, rfl, s7 _ _ a2, by rw [List.length_map]; exact Nat.le_trans gd.len (by decide), numV_ints⟩,
      fun xs ys ex ey _ _ H7 tk sb => ⟨rfl, ?_⟩, fun ng => (ng ⟨nu, nd⟩).elim⟩
    cases ex; cases ey
    have s67 : Same H6 H7 := fun b o q => sb b o (s7 b o q) (ne_of_none q nx)
    -- what was handed in is changed
    refine ⟨_, rfl, hd, _, _, _, rfl, rfl, SqL.of (s67 _ _ a3), rfl, .inl ⟨rfl, _, SqL.of (s67 _ _ a1)⟩, q1, _, _, rfl, rfl, s67 _ _ a1, small1000 (by rw [List.length_map]; exact Nat.le_trans gu.len (by decide)), ?_⟩
    refine ⟨_, rfl, hd, [.ref q1, .ref q2], _, _, rfl, rfl, SqL.of (by rw [upd_ne (Ne.symm nq1h)]; exact s67 _ _ a3), rfl, .inl ⟨rfl, _, SqL.of (by rw [upd_ne (Ne.symm n12)]; exact s67 _ _ a2)⟩, q2, _, rfl, rfl, (by rw [upd_ne (Ne.symm n12)]; exact s67 _ _ a2), ?_⟩
    have s30 := ((s46.trans s67).mut (o := .lst (ups.map V.int ++ [.int 9])) g1).mut (o := .lst []) g23
    have hO : OT A ups downs (upd (upd H7 q1 (.lst (ups.map V.int ++ [.int 9]))) q2 (.lst [])) x := tk.at fun b o hb hn => by
      have n1 : b ≠ q1 := fun z => by
        rcases hn with e | e
        · rw [z] at e; rw [← e, a1] at nx; cases nx
        · rw [z, s7 _ _ a1] at e; cases e
      have n2 : b ≠ q2 := fun z => by
        rcases hn with e | e
        · rw [z] at e; rw [← e, a2] at nx; cases nx
        · rw [z, s7 _ _ a2] at e; cases e
      rw [upd_ne n2, upd_ne n1]
      exact hb
    generalize hH0 : upd (upd H7 q1 (.lst (ups.map V.int ++ [.int 9]))) q2 (.lst []) = H0 at s30 hO
    have s0 : Same H H0 := s3.trans s30
    have hS0 := s0.seq hS
    have hu0 := s30 _ _ hu3
    have hd0 := s30 _ _ hd3
    refine ⟨_, rfl, a, _, rfl, .inl hS0, 1, _, rfl, ⟨by decide, by decide, by omega, by rw [List.length_map]; omega⟩, ?_⟩
    rw [List.length_map]
    refine for_range (lo := 1) (n := ((ns.length : Int) - 1).toNat) (fun i σ H' => ∃ v6 v7 v8 v9 v10 v11 v12 v13, σ = [some (.ref a), some (.int c), some (.ref l1), some (.ref p3), some (.ref hd), some (.ref x), v6, v7, v8, v9, v10, v11, v12, v13] ∧ Same H0 H')
      ⟨_, _, _, _, _, _, _, _, rfl, Same.refl H0⟩ ?_ ?_
    · rintro i σ H1 hi ⟨v6, v7, v8, v9, v10, v11, v12, v13, rfl, e⟩
      have hk : 1 + i < ns.length := by omega
      have hat : (ns.map V.int)[1 + i]? = some (.int (ns.getD (1 + i) 0)) := by
        rw [List.getElem?_map, List.getD_eq_getElem?_getD, List.getElem?_eq_getElem hk]
        rfl
      refine ⟨_, rfl, _, rfl, a, _, _, _, rfl, rfl, e.seq hS0, at_of (by omega) hat, _, rfl, _, _, rfl, by omega, by omega, fun s1 sl z0 z1 hsl => ?_⟩
      have st0 := St1.mk hsl e z0 z1
      generalize hG0 : upd H1 sl (.lst [.int s1]) = G0 at st0
      -- the board
      refine ⟨⟨_, rfl⟩, _, rfl, ?_⟩
      refine L2.St1.next (m := 6) st0 (by decide) ?_
      intro r H2 r0 r1 st2 _
      refine ⟨r, rfl, by omega, by omega, fun L hL => ?_⟩
      have nLs : L ≠ sl := st2.away hL
      refine lc_range (lo := 0) (n := r.toNat) (fun j H' => ∃ cs : List Nat, cs.length = j ∧ H' L = some (.lst ((cs.map fun c => (⟨#[c]⟩ : Str)).map V.str)) ∧ St1 H0 H' sl) ⟨[], rfl, upd_same, st2.new hL⟩ ?_ ?_
      · rintro j H' hj ⟨cs, hcs, hL', st⟩
        refine ⟨rfl, _, rfl, ?_⟩
        refine L2.St1.next (m := 10) st (by decide) ?_
        intro k H3 k0 k1 st3 aw
        refine ⟨"0123456789", k, _, rfl, rfl, by decide, fig_at k0 (by omega), _, (aw L nLs).trans hL', ?_, cs ++ [48 + k.toNat], by simp [hcs], by rw [upd_same]; simp, st3.mut (st2.2.1.free hL) nLs⟩
        rw [List.length_map, List.length_map, hcs]
        exact small1000 (by omega)
      rintro H3 ⟨cs, hcs, hL3, st3⟩
      have hzl : (Txt.join ("" : Str) (cs.map fun c => (⟨#[c]⟩ : Str))).length ≤ 5 := by
        rw [← cps_len, join_signs, hcs]
        omega
      refine ⟨"", L, _, rfl, rfl, .inl (SqL.of hL3), ?_, ?_⟩
      · have e1 : (List.map (fun x : Str => x.length) (cs.map fun c => (⟨#[c]⟩ : Str))).sum ≤ cs.length := by
          clear hL3 hzl hcs
          induction cs with
          | nil => exact Nat.le_refl 0
          | cons c r ih =>
            have : (⟨#[c]⟩ : Str).length = 1 := rfl
            simp only [List.map_cons, List.sum_cons, List.length_cons, this]
            omega
        have : ("" : Str).length = 0 := rfl
        rw [this]
        omega
      generalize Txt.join ("" : Str) (cs.map fun c => (⟨#[c]⟩ : Str)) = z at hzl
      refine ⟨fun σ' H' => ∃ v, σ' = [some (.ref a), some (.int c), some (.ref l1), some (.ref p3), some (.ref hd), some (.ref x), some (.int (1 + i)), some (.ref sl), some v, v9, v10, v11, v12, v13] ∧ St1 H0 H' sl ∧ BV sl H' v, ?_, ?_⟩
      · refine ⟨_, rfl, ?_⟩
        refine L2.St1.next (m := 8) st3 (by decide) ?_
        intro q H4 q0 q1 st4 _
        refine ⟨rfl, _, rfl, ?_⟩
        refine ite2 (fun _ => ?_) (fun _ => ?_)
        · refine ⟨by show 1 ≤ sizeLine; decide, fun p1 g1 => ⟨by show 8 ≤ sizeLine; decide, fun p2 g2 => ⟨_, rfl, ?_⟩⟩⟩
          have np1 : p1 ≠ sl := st4.away g1
          have st5 := st4.new (o := .lst [.str "1"]) g1
          have np2 : p2 ≠ sl := st5.away g2
          have np12 : p1 ≠ p2 := ne_of_none upd_same g2
          have st6 := st5.new (o := .lst [.non, .int 5, .ref p1, .str "a", .str "123456", .str " 1", .str "-1", .str "1\n"]) g2
          refine L2.St1.next (m := 8) st6 (by decide) ?_
          intro r8 H7 z0 z1 st7 aw
          have hp2 : H7 p2 = some (.lst [.non, .int 5, .ref p1, .str "a", .str "123456", .str " 1", .str "-1", .str "1\n"]) := (aw _ np2).trans upd_same
          have hp1 : H7 p1 = some (.lst [.str "1"]) := (aw _ np1).trans ((upd_ne np12).trans upd_same)
          obtain rfl | rfl | rfl | rfl | rfl | rfl | rfl | rfl : r8 = 0 ∨ r8 = 1 ∨ r8 = 2 ∨ r8 = 3 ∨ r8 = 4 ∨ r8 = 5 ∨ r8 = 6 ∨ r8 = 7 := by omega
          · exact ⟨p2, _, _, _, rfl, rfl, SqL.of hp2, rfl, _, rfl, st7, .inr (.inl rfl)⟩
          · exact ⟨p2, _, _, _, rfl, rfl, SqL.of hp2, rfl, _, rfl, st7, .inr (.inr (.inl ⟨_, rfl⟩))⟩
          · exact ⟨p2, _, _, _, rfl, rfl, SqL.of hp2, rfl, _, rfl, st7, .inr (.inr (.inr ⟨p1, _, np1, rfl, hp1⟩))⟩
          all_goals exact ⟨p2, _, _, _, rfl, rfl, SqL.of hp2, rfl, _, rfl, st7, .inl ⟨_, rfl, by decide⟩⟩
        · exact ⟨_, rfl, st4, .inl ⟨z, rfl, Nat.le_trans hzl (by decide)⟩⟩
      rintro σ4 H4 ⟨v, rfl, st4, bv⟩
      -- the hand
      refine ⟨fun σ' H' => ∃ h, σ' = [some (.ref a), some (.int c), some (.ref l1), some (.ref p3), some (.ref hd), some (.ref x), some (.int (1 + i)), some (.ref sl), some v, some h, v10, v11, v12, v13] ∧ Same H0 H' ∧ BoardV K H' v ∧ ((∃ u, h = .str (handS u)) ∨ h = .str "Up" ∨ h = .non), ?_, ?_⟩
      · refine ⟨by show 6 ≤ sizeLine; decide, fun p1 g1 => ⟨_, rfl, ?_⟩⟩
        have np1 := st4.away g1
        have bv5 := bv.same (Same.new (o := .lst [.str "up", .str "down", .str "up", .str "down", .str "Up", .non]) g1)
        have st5 := st4.new (o := .lst [.str "up", .str "down", .str "up", .str "down", .str "Up", .non]) g1
        refine L2.St1.next (m := 6) st5 (by decide) ?_
        intro r6 H6 z0 z1 st6 aw
        have hp1 : H6 p1 = some (.lst [.str "up", .str "down", .str "up", .str "down", .str "Up", .non]) := (aw _ np1).trans upd_same
        have bv6 := (bv5.away aw).board (K := K)
        obtain rfl | rfl | rfl | rfl | rfl | rfl : r6 = 0 ∨ r6 = 1 ∨ r6 = 2 ∨ r6 = 3 ∨ r6 = 4 ∨ r6 = 5 := by omega
        · exact ⟨p1, _, _, _, rfl, rfl, SqL.of hp1, rfl, _, rfl, st6.2.1, bv6, .inl ⟨true, rfl⟩⟩
        · exact ⟨p1, _, _, _, rfl, rfl, SqL.of hp1, rfl, _, rfl, st6.2.1, bv6, .inl ⟨false, rfl⟩⟩
        · exact ⟨p1, _, _, _, rfl, rfl, SqL.of hp1, rfl, _, rfl, st6.2.1, bv6, .inl ⟨true, rfl⟩⟩
        · exact ⟨p1, _, _, _, rfl, rfl, SqL.of hp1, rfl, _, rfl, st6.2.1, bv6, .inl ⟨false, rfl⟩⟩
        · exact ⟨p1, _, _, _, rfl, rfl, SqL.of hp1, rfl, _, rfl, st6.2.1, bv6, .inr (.inl rfl)⟩
        · exact ⟨p1, _, _, _, rfl, rfl, SqL.of hp1, rfl, _, rfl, st6.2.1, bv6, .inr (.inr rfl)⟩
      clear st4 bv st3
      rintro σ5 H5 ⟨h, rfl, e5, bv, hv⟩
      -- good
      refine ⟨fun σ' H' => σ' = [some (.ref a), some (.int c), some (.ref l1), some (.ref p3), some (.ref hd), some (.ref x), some (.int (1 + i)), some (.ref sl), some v, some h, some (.bl (goodT v)), v11, v12, v13] ∧ Same H0 H' ∧ BoardV K H' v, ?_, ?_⟩
      · have e5' := e5
        rcases id bv with ⟨z, rfl, hz⟩ | ⟨t, ty, kt⟩
        · refine ⟨_, rfl, _, _, _, _, true, rfl, .ty "str", .base (.str z), kit_ty (by decide +kernel), true, rfl, ?_⟩
          refine iteT ⟨_, rfl, z, rfl, Nat.le_trans hz (by decide), _, _, rfl, rfl, _, rfl, ?_⟩
          refine ite2 (fun h6 => ?_) (fun h6 => ?_)
          · have h6 : z.length ≤ 5 := by have := of_decide_eq_true h6; omega
            refine ⟨_, rfl, z, rfl, fun L hL => lc_str (z := z) (fun j H' => Same H5 H' ∧ H' L = some (.lst ((((z.cps.toList.take j).filter fun c => !decide (c ∈ FIGS)).map fun _ => (1 : Int)).map V.int))) ⟨Same.new hL, by rw [upd_same]; simp⟩ ?_ ?_⟩
            · rintro j ch H6 hc ⟨e6, hl⟩
              refine ⟨rfl, _, rfl, ch, _, rfl, rfl, _, rfl, ?_⟩
              show if (!decide (ch ∈ FIGS)) = true then _ else _
              cases hf : (!decide (ch ∈ FIGS)) with
              | true =>
                refine iteT ⟨_, hl, ?_, e6.mut hL, ?_⟩
                · rw [List.length_map, List.length_map]
                  refine small1000 (Nat.le_trans (List.length_filter_le _ _) ?_)
                  rw [List.length_take, cps_len]
                  exact Nat.le_trans (Nat.min_le_right _ _) hz
                · rw [upd_same, take_snoc (cps_at hc), List.filter_append]
                  simp only [List.filter_cons, hf, if_true, List.filter_nil, List.map_append, List.map_cons, List.map_nil]
              | false =>
                refine iteF ⟨e6, ?_⟩
                rw [hl, take_snoc (cps_at hc), List.filter_append]
                simp only [List.filter_cons, hf, Bool.false_eq_true, if_false, List.filter_nil, List.append_nil]
            · rintro H6 ⟨e6, hl⟩
              refine ⟨by show 0 ≤ sizeLine; decide, fun p gp => ?_⟩
              have e7 := e6.trans (Same.new (o := .lst []) gp)
              refine ⟨_, _, .lst (SqL.of ((Same.new gp) _ _ hl)) (dp_ints _), .lst (SqL.of upd_same) .nil, shaped_ints _, shaped_ints [], ?_, e5'.trans e7, e7.boardV bv⟩
              rw [cps_take, good_ones h6]
              rfl
          · refine ⟨?_, e5', bv⟩
            have h6 : ¬ z.length ≤ 5 := fun h => h6 (decide_eq_true (by omega))
            rw [show goodT (.str z) = false by simp [goodT, h6]]
            rfl
        · refine ⟨_, rfl, _, _, _, _, false, rfl, .ty "str", ty, kt, false, rfl, ?_⟩
          refine iteF ⟨?_, e5', bv⟩
          have : goodT v = false := by cases v <;> first | rfl | exact (IsNot.str ⟨t, ty, kt⟩).elim
          rw [this]
          rfl
      clear e5 bv
      rintro σ6 H6 ⟨rfl, e6, bv⟩
      have hO6 := hO.same e6
      obtain ⟨xdx, _, _, _, hx6, _⟩ := id hO6
      -- what is_board says
      refine ⟨_, rfl, x, xdx, _, rfl, hx6, rfl, _, rfl, x, v, rfl, trivial, bv, fun H7 e7 => ?_⟩
      refine ⟨_, _, _, _, true, rfl, .ty "bool", .base (.bl _), kit_ty (by decide +kernel), true, rfl, ?_⟩
      refine iteF ⟨_, rfl, x, xdx, _, rfl, e7 _ _ hx6, rfl, _, rfl, x, v, rfl, trivial, e7.boardV bv, fun H8 e8 => ⟨_, rfl, rfl, _, rfl, ?_⟩⟩
      have bv8 := (e7.trans e8).boardV bv
      have e8 : Same H0 H8 := (e6.trans e7).trans e8
      rw [decide_eq_true rfl]
      refine iteF ?_
      -- due, at first
      refine ⟨fun σ' H' => σ' = [some (.ref a), some (.int c), some (.ref l1), some (.ref p3), some (.ref hd), some (.ref x), some (.int (1 + i)), some (.ref sl), some v, some h, some (.bl (goodT v)), some (.str (if goodT v = true then "NoHand" else "NoBoard")), v12, v13] ∧ Same H0 H' ∧ BoardV K H' v, ?_, ?_⟩
      · refine ⟨by show 2 ≤ sizeLine; decide, fun p gp => ⟨_, rfl, _, rfl, .inr ⟨_, rfl, p, [.str "NoHand", .str "NoBoard"], _, .str (if goodT v = true then "NoHand" else "NoBoard"), rfl, rfl, SqL.of upd_same, ?_, rfl, e8.trans (Same.new gp), ?_⟩⟩⟩
        · cases goodT v <;> rfl
        · exact (Same.new gp).boardV bv8
      clear e8 bv bv8
      rintro σ9 H9 ⟨rfl, e9, bv⟩
      -- due, where there are moves
      refine ⟨fun σ' H' => ∃ d, σ' = [some (.ref a), some (.int c), some (.ref l1), some (.ref p3), some (.ref hd), some (.ref x), some (.int (1 + i)), some (.ref sl), some v, some h, some (.bl (goodT v)), some d, v12, v13] ∧ Same H0 H' ∧ BoardV K H' v ∧ Due goodT (chT ups downs) H' v h d, ?_, ?_⟩
      · refine ⟨_, rfl, _, rfl, ?_⟩
        cases hg : goodT v with
        | false =>
          refine iteF (iteF ⟨_, rfl, e9, bv, .inl ⟨hg, rfl⟩⟩)
        | true =>
          refine iteT ⟨_, rfl, by show 2 ≤ sizeLine; decide, fun p gp => ⟨p, _, rfl, .inl (SqL.of upd_same), hand_flat hv, rfl, _, rfl, ?_⟩⟩
          have e10 := Same.new (o := .lst [.str "up", .str "down"]) gp
          rcases hand_in hv with ⟨hi, u, rfl⟩ | ⟨hi, hn⟩
          · show if inV (V.str (handS u)) [.str "up", .str "down"] = true then _ else _
            rw [hi]
            obtain ⟨z, rfl⟩ := goodT_is v hg
            refine iteT ⟨_, rfl, _, rfl, by show 2 ≤ sizeLine; decide, fun p2 gp2 => ⟨_, rfl, rfl, .inr ⟨_, rfl, p2, [.ref l1, .ref p3], _, .ref (if u = true then l1 else p3), rfl, rfl, SqL.of upd_same, ?_, _, rfl, if u = true then l1 else p3, z, if u = true then ups else downs, rfl, ?_, ?_, ?_, hg, fun H11 l ys e12 f12 so hl => ?_⟩⟩⟩
            · cases u
              · rw [show decide (V.str (handS false) = V.str (Str.ofString "down")) = true by decide +kernel]
                rfl
              · rw [show decide (V.str (handS true) = V.str (Str.ofString "down")) = false by decide +kernel]
                rfl
            · cases u
              · exact SqL.of ((e9.trans e10).trans (Same.new gp2) _ _ hd0)
              · exact SqL.of ((e9.trans e10).trans (Same.new gp2) _ _ hu0)
            · cases u
              · exact gd.len
              · exact gu.len
            · cases u
              · exact gd.one
              · exact gu.one
            · have e11 := (e10.trans (Same.new gp2)).trans e12
              exact ⟨_, rfl, e9.trans e11, e11.boardV bv, .inr (.inr ⟨z, u, l, ys, rfl, hg, rfl, rfl, hl, so⟩)⟩
          · show if inV h [.str "up", .str "down"] = true then _ else _
            rw [hi]
            exact iteF ⟨_, rfl, e9.trans e10, e10.boardV bv, .inr (.inl ⟨hg, hn, rfl⟩)⟩
      clear e9 bv
      rintro σ10 H10 ⟨d, rfl, e10, bv, du⟩
      have lay : ∀ z u, goodT (.str z) = true → ∀ y ∈ chT ups downs u z, PyData.canLay0 (.str y) = true := fun z u g y hy => by
        cases u
        · exact genT_lay g gd.one (Nat.le_refl _) hy
        · exact genT_lay g gu.one (Nat.le_refl _) hy
      refine ⟨_, rfl, _, rfl, _, rfl, (ups, downs), ⟨gu, gd⟩, told_due goodT_is (hO.same e10) bv (hand_is hv) fun t H11 e11 D => ?_⟩
      obtain ⟨D1, D2, d1, d2, s1, s2, q⟩ := D.alike (K := K) lay (du.same e11)
      refine ⟨_, rfl, D1, D2, d1, d2, s1, s2, _, rfl, ?_⟩
      rw [q]
      refine iteF ?_
      have bv11 := e11.boardV bv
      have du11 := du.same e11
      have e11 : Same H0 H11 := e10.trans e11
      clear d1 d2 D
      refine ⟨_, rfl, by show 2 ≤ sizeLine; decide, fun p gp => ⟨p, _, rfl, .inl (SqL.of upd_same), hand_flat hv, rfl, _, rfl, ?_⟩⟩
      have e12 := Same.new (o := .lst [.str "up", .str "down"]) gp
      rcases hand_in hv with ⟨hi, u, rfl⟩ | ⟨hi, hn⟩
      · show if inV (V.str (handS u)) [.str "up", .str "down"] = true then _ else _
        rw [hi]
        have hO12 := hO.same (e11.trans e12)
        refine iteT ⟨_, rfl, fun y dy ny ndy ney => ?_⟩
        obtain ⟨xdx, _, _, _, hx12, _⟩ := id hO12
        have s13 : Same (upd H11 p (.lst [.str "up", .str "down"])) (upd (upd (upd H11 p (.lst [.str "up", .str "down"])) dy (.own y)) y (.ins A.cTurned dy [])) := fun b o q => by
          rw [upd_ne (ne_of_none q ny), upd_ne (ne_of_none q ndy)]
          exact q
        refine ⟨y, dy, _, _, true, rfl, upd_same, .base (.ins (s13 _ _ hx12) T.clTakings T.coTakings.a T.coTakings.g T.coTakings.t T.coTakings.m), T.iTakings_Rule, fun _ => ⟨rfl, ?_⟩, fun z => nomatch z⟩
        have s14 := s13.mut (o := .ins A.cTurned dy [("inner", .ref x)]) ny
        have hR : OR A ups downs (upd (upd (upd (upd H11 p (.lst [.str "up", .str "down"])) dy (.own y)) y (.ins A.cTurned dy [])) y (.ins A.cTurned dy [("inner", .ref x)])) y := ⟨dy, x, upd_same, hO12.same s14⟩
        generalize upd (upd (upd (upd H11 p (.lst [.str "up", .str "down"])) dy (.own y)) y (.ins A.cTurned dy [])) y (.ins A.cTurned dy [("inner", .ref x)]) = H14 at s14 hR
        refine ⟨_, rfl, by show 2 ≤ sizeLine; decide, fun p4 gp4 => ⟨_, rfl, rfl, .inr ⟨_, rfl, p4, [.str "up", .str "down"], _, .str (handS (!u)), rfl, rfl, SqL.of upd_same, ?_, ?_⟩⟩⟩
        · cases u
          · rw [show decide (V.str (handS false) = V.str (Str.ofString "up")) = false by decide +kernel]
            rfl
          · rw [show decide (V.str (handS true) = V.str (Str.ofString "up")) = true by decide +kernel]
            rfl
        have e15 := Same.new (o := .lst [.str "up", .str "down"]) gp4
        have s15 := (e12.trans s14).trans e15
        refine ⟨(ups, downs), ⟨gu, gd⟩, told_due goodT_is (hR.same e15) (s15.boardV bv11) (hand_is (.inl ⟨!u, rfl⟩)) fun t H16 e16 D => ?_⟩
        obtain ⟨D1, D2, d1, d2, s1, s2, q⟩ := D.flip.alike (K := K) lay (du11.same (s15.trans e16))
        refine ⟨_, rfl, D1, D2, d1, d2, s1, s2, _, rfl, ?_⟩
        rw [q]
        exact iteF ⟨_, _, _, _, _, _, _, _, rfl, e11.trans (s15.trans e16)⟩
      · show if inV h [.str "up", .str "down"] = true then _ else _
        rw [hi]
        exact iteF (iteF ⟨_, _, _, _, _, _, _, _, rfl, e11.trans e12⟩)
    · rintro σ H1 ⟨v6, v7, v8, v9, v10, v11, v12, v13, rfl, e⟩
      have hO1 := hO.same e
      obtain ⟨xdx, _, _, _, hx1, _⟩ := id hO1
      refine ⟨_, rfl, _, _, _, _, true, rfl, .own A.cRule, .base (.ins hx1 T.clTakings T.coTakings.a T.coTakings.g T.coTakings.t T.coTakings.m), T.iTakings_Rule, true, rfl, ?_⟩
      refine iteT ⟨_, rfl, x, xdx, _, rfl, hx1, rfl, x, .str "", rfl, trivial, .inl ⟨_, rfl, by decide⟩, fun H2 e2 => ⟨goodT (.str ""), true, rfl, rfl, _, rfl, ?_⟩⟩
      rw [show decide (goodT (.str (Str.ofString "")) = true) = true by decide +kernel]
      refine iteT ⟨_, rfl, (ups, downs), ⟨gu, gd⟩, told_due goodT_is (hO1.same e2) (.inl ⟨_, rfl, by decide⟩) (hand_is (.inl ⟨true, rfl⟩)) fun t H3 e3 D => ?_⟩
      refine ⟨by show 0 ≤ sizeLine; decide, fun p gp => ?_⟩
      rcases D with ⟨g, _⟩ | ⟨_, n, _⟩ | ⟨z, u, l, ys, ez, g, eu, rfl, hl, so⟩
      · exact absurd g (by decide +kernel)
      · exact (n true rfl).elim
      · cases V.str.inj ez
        have hy : ys = [] := by
          cases ys with
          | nil => rfl
          | cons y r =>
            have := (so.2.2 y).mp List.mem_cons_self
            cases this
        subst hy
        refine ⟨_, _, .lst (SqL.of ((Same.new gp) _ _ hl)) .nil, .lst (SqL.of upd_same) .nil, by decide +kernel, by decide +kernel, ?_⟩
        rw [show PyData.eqv (.list []) (.list []) = true by decide +kernel]
        exact k _
end
end K73
namespace K73
open PySem L2
set_option maxHeartbeats 4000000 in
theorem all_mk {l : PySem.W.OpenLaw} {w : World} {K : PySem.W.Frag} {h : Heap} {mg : Str → Option Value} {fa : Addr} {ocis_number kVis_number dcis_number pmis_number cdis_number ctis_number : Value} {odis_number anis_number : Option Addr} {slis_number : Array (Option Value)} {ocRule_moves kVRule_moves dcRule_moves pmRule_moves cdRule_moves ctRule_moves : Value} {odRule_moves anRule_moves : Option Addr} {slRule_moves : Array (Option Value)} {ocTakings___init__ kVTakings___init__ dcTakings___init__ pmTakings___init__ cdTakings___init__ ctTakings___init__ : Value} {odTakings___init__ anTakings___init__ : Option Addr} {slTakings___init__ : Array (Option Value)} {ocTakings_good_numbers kVTakings_good_numbers dcTakings_good_numbers pmTakings_good_numbers cdTakings_good_numbers ctTakings_good_numbers : Value} {odTakings_good_numbers anTakings_good_numbers : Option Addr} {slTakings_good_numbers : Array (Option Value)} {ocTakings_is_board kVTakings_is_board dcTakings_is_board pmTakings_is_board cdTakings_is_board ctTakings_is_board : Value} {odTakings_is_board anTakings_is_board : Option Addr} {slTakings_is_board : Array (Option Value)} {ocTakings_changed kVTakings_changed dcTakings_changed pmTakings_changed cdTakings_changed ctTakings_changed : Value} {odTakings_changed anTakings_changed : Option Addr} {slTakings_changed : Array (Option Value)} {ocTurned___init__ kVTurned___init__ dcTurned___init__ pmTurned___init__ cdTurned___init__ ctTurned___init__ : Value} {odTurned___init__ anTurned___init__ : Option Addr} {slTurned___init__ : Array (Option Value)} {ocTurned_is_board kVTurned_is_board dcTurned_is_board pmTurned_is_board cdTurned_is_board ctTurned_is_board : Value} {odTurned_is_board anTurned_is_board : Option Addr} {slTurned_is_board : Array (Option Value)} {ocTurned_changed kVTurned_changed dcTurned_changed pmTurned_changed cdTurned_changed ctTurned_changed : Value} {odTurned_changed anTurned_changed : Option Addr} {slTurned_changed : Array (Option Value)} {oclaw_next kVlaw_next dclaw_next pmlaw_next cdlaw_next ctlaw_next : Value} {odlaw_next anlaw_next : Option Addr} {sllaw_next : Array (Option Value)} {oclaw_cell kVlaw_cell dclaw_cell pmlaw_cell cdlaw_cell ctlaw_cell : Value} {odlaw_cell anlaw_cell : Option Addr} {sllaw_cell : Array (Option Value)} {oclaw_state kVlaw_state dclaw_state pmlaw_state cdlaw_state ctlaw_state : Value} {odlaw_state anlaw_state : Option Addr} {sllaw_state : Array (Option Value)} {oclaw_told kVlaw_told dclaw_told pmlaw_told cdlaw_told ctlaw_told : Value} {odlaw_told anlaw_told : Option Addr} {sllaw_told : Array (Option Value)} {oclaw_moves kVlaw_moves dclaw_moves pmlaw_moves cdlaw_moves ctlaw_moves : Value} {odlaw_moves anlaw_moves : Option Addr} {sllaw_moves : Array (Option Value)} {oclaw_numbers kVlaw_numbers dclaw_numbers pmlaw_numbers cdlaw_numbers ctlaw_numbers : Value} {odlaw_numbers anlaw_numbers : Option Addr} {sllaw_numbers : Array (Option Value)} {oclaw kVlaw dclaw pmlaw cdlaw ctlaw : Value} {odlaw anlaw : Option Addr} {sllaw : Array (Option Value)} {tMOST_FIGURES : Tok} {tFIGURES : Tok} {tHANDS0 tHANDS1 : Tok} {ddHANDS : Option Addr} {nnHANDS : Nat} {ssHANDS : Array (Option Value)} {fis_number fRule_moves fTakings___init__ fTakings_good_numbers fTakings_is_board fTakings_changed fTurned___init__ fTurned_is_board fTurned_changed flaw_next flaw_cell flaw_state flaw_told flaw_moves flaw_numbers flaw cDuelError cNoRule cNoBoard cNoHand cRule cTakings cTurned aHANDS : Addr}
    (X : K.In h) (G : h.Ns mainGlobals mg) (hfa : mg "law" = some (.ref fa))
    (nDuelError : PySem.W.nsIn K mainGlobals "DuelError" = some (some (.ref cDuelError)))
    (nNoRule : PySem.W.nsIn K mainGlobals "NoRule" = some (some (.ref cNoRule)))
    (nNoBoard : PySem.W.nsIn K mainGlobals "NoBoard" = some (some (.ref cNoBoard)))
    (nNoHand : PySem.W.nsIn K mainGlobals "NoHand" = some (some (.ref cNoHand)))
    (nRule : PySem.W.nsIn K mainGlobals "Rule" = some (some (.ref cRule)))
    (nTakings : PySem.W.nsIn K mainGlobals "Takings" = some (some (.ref cTakings)))
    (nTurned : PySem.W.nsIn K mainGlobals "Turned" = some (some (.ref cTurned)))
    (ais_number : PySem.W.nsIn K mainGlobals "is_number" = some (some (.ref fis_number)))
    (lis_number : K.lookup fis_number = some ⟨ocis_number, odis_number, .func (PySem.W.fnOf "is_number" "is_number" (defArgs sis_number) (defBody sis_number) (defScope sis_number) .none kVis_number dcis_number pmis_number anis_number cdis_number ctis_number), slis_number⟩)
    (ccis_number : PySem.W.codeIn K cdis_number "is_number" = true)
    (kkis_number : PySem.W.keepIn K (.ref fis_number) = true)
    (aRule_moves : PySem.W.findIn K (.ref cRule) "moves" = some (some (.ref fRule_moves)))
    (lRule_moves : K.lookup fRule_moves = some ⟨ocRule_moves, odRule_moves, .func (PySem.W.fnOf "moves" "Rule.moves" (defArgs sRule_moves) (defBody sRule_moves) (defScope sRule_moves) .none kVRule_moves dcRule_moves pmRule_moves anRule_moves cdRule_moves ctRule_moves), slRule_moves⟩)
    (ccRule_moves : PySem.W.codeIn K cdRule_moves "Rule.moves" = true)
    (kkRule_moves : PySem.W.keepIn K (.ref fRule_moves) = true)
    (iiRule_moves : PySem.W.isFn K (.ref fRule_moves) = true)
    (aTakings___init__ : PySem.W.findIn K (.ref cTakings) "__init__" = some (some (.ref fTakings___init__)))
    (lTakings___init__ : K.lookup fTakings___init__ = some ⟨ocTakings___init__, odTakings___init__, .func (PySem.W.fnOf "__init__" "Takings.__init__" (defArgs sTakings___init__) (defBody sTakings___init__) (defScope sTakings___init__) .none kVTakings___init__ dcTakings___init__ pmTakings___init__ anTakings___init__ cdTakings___init__ ctTakings___init__), slTakings___init__⟩)
    (ccTakings___init__ : PySem.W.codeIn K cdTakings___init__ "Takings.__init__" = true)
    (kkTakings___init__ : PySem.W.keepIn K (.ref fTakings___init__) = true)
    (iiTakings___init__ : PySem.W.isFn K (.ref fTakings___init__) = true)
    (aTakings_good_numbers : PySem.W.findIn K (.ref cTakings) "good_numbers" = some (some (.ref fTakings_good_numbers)))
    (lTakings_good_numbers : K.lookup fTakings_good_numbers = some ⟨ocTakings_good_numbers, odTakings_good_numbers, .func (PySem.W.fnOf "good_numbers" "Takings.good_numbers" (defArgs sTakings_good_numbers) (defBody sTakings_good_numbers) (defScope sTakings_good_numbers) .none kVTakings_good_numbers dcTakings_good_numbers pmTakings_good_numbers anTakings_good_numbers cdTakings_good_numbers ctTakings_good_numbers), slTakings_good_numbers⟩)
    (ccTakings_good_numbers : PySem.W.codeIn K cdTakings_good_numbers "Takings.good_numbers" = true)
    (kkTakings_good_numbers : PySem.W.keepIn K (.ref fTakings_good_numbers) = true)
    (iiTakings_good_numbers : PySem.W.isFn K (.ref fTakings_good_numbers) = true)
    (aTakings_is_board : PySem.W.findIn K (.ref cTakings) "is_board" = some (some (.ref fTakings_is_board)))
    (lTakings_is_board : K.lookup fTakings_is_board = some ⟨ocTakings_is_board, odTakings_is_board, .func (PySem.W.fnOf "is_board" "Takings.is_board" (defArgs sTakings_is_board) (defBody sTakings_is_board) (defScope sTakings_is_board) .none kVTakings_is_board dcTakings_is_board pmTakings_is_board anTakings_is_board cdTakings_is_board ctTakings_is_board), slTakings_is_board⟩)
    (ccTakings_is_board : PySem.W.codeIn K cdTakings_is_board "Takings.is_board" = true)
    (kkTakings_is_board : PySem.W.keepIn K (.ref fTakings_is_board) = true)
    (iiTakings_is_board : PySem.W.isFn K (.ref fTakings_is_board) = true)
    (aTakings_changed : PySem.W.findIn K (.ref cTakings) "changed" = some (some (.ref fTakings_changed)))
    (lTakings_changed : K.lookup fTakings_changed = some ⟨ocTakings_changed, odTakings_changed, .func (PySem.W.fnOf "changed" "Takings.changed" (defArgs sTakings_changed) (defBody sTakings_changed) (defScope sTakings_changed) .none kVTakings_changed dcTakings_changed pmTakings_changed anTakings_changed cdTakings_changed ctTakings_changed), slTakings_changed⟩)
    (ccTakings_changed : PySem.W.codeIn K cdTakings_changed "Takings.changed" = true)
    (kkTakings_changed : PySem.W.keepIn K (.ref fTakings_changed) = true)
    (iiTakings_changed : PySem.W.isFn K (.ref fTakings_changed) = true)
    (aTurned___init__ : PySem.W.findIn K (.ref cTurned) "__init__" = some (some (.ref fTurned___init__)))
    (lTurned___init__ : K.lookup fTurned___init__ = some ⟨ocTurned___init__, odTurned___init__, .func (PySem.W.fnOf "__init__" "Turned.__init__" (defArgs sTurned___init__) (defBody sTurned___init__) (defScope sTurned___init__) .none kVTurned___init__ dcTurned___init__ pmTurned___init__ anTurned___init__ cdTurned___init__ ctTurned___init__), slTurned___init__⟩)
    (ccTurned___init__ : PySem.W.codeIn K cdTurned___init__ "Turned.__init__" = true)
    (kkTurned___init__ : PySem.W.keepIn K (.ref fTurned___init__) = true)
    (iiTurned___init__ : PySem.W.isFn K (.ref fTurned___init__) = true)
    (aTurned_is_board : PySem.W.findIn K (.ref cTurned) "is_board" = some (some (.ref fTurned_is_board)))
    (lTurned_is_board : K.lookup fTurned_is_board = some ⟨ocTurned_is_board, odTurned_is_board, .func (PySem.W.fnOf "is_board" "Turned.is_board" (defArgs sTurned_is_board) (defBody sTurned_is_board) (defScope sTurned_is_board) .none kVTurned_is_board dcTurned_is_board pmTurned_is_board anTurned_is_board cdTurned_is_board ctTurned_is_board), slTurned_is_board⟩)
    (ccTurned_is_board : PySem.W.codeIn K cdTurned_is_board "Turned.is_board" = true)
    (kkTurned_is_board : PySem.W.keepIn K (.ref fTurned_is_board) = true)
    (iiTurned_is_board : PySem.W.isFn K (.ref fTurned_is_board) = true)
    (aTurned_changed : PySem.W.findIn K (.ref cTurned) "changed" = some (some (.ref fTurned_changed)))
    (lTurned_changed : K.lookup fTurned_changed = some ⟨ocTurned_changed, odTurned_changed, .func (PySem.W.fnOf "changed" "Turned.changed" (defArgs sTurned_changed) (defBody sTurned_changed) (defScope sTurned_changed) .none kVTurned_changed dcTurned_changed pmTurned_changed anTurned_changed cdTurned_changed ctTurned_changed), slTurned_changed⟩)
    (ccTurned_changed : PySem.W.codeIn K cdTurned_changed "Turned.changed" = true)
    (kkTurned_changed : PySem.W.keepIn K (.ref fTurned_changed) = true)
    (iiTurned_changed : PySem.W.isFn K (.ref fTurned_changed) = true)
    (alaw_next : PySem.W.nsIn K mainGlobals "_law_next" = some (some (.ref flaw_next)))
    (llaw_next : K.lookup flaw_next = some ⟨oclaw_next, odlaw_next, .func (PySem.W.fnOf "_law_next" "_law_next" (defArgs slaw_next) (defBody slaw_next) (defScope slaw_next) .none kVlaw_next dclaw_next pmlaw_next anlaw_next cdlaw_next ctlaw_next), sllaw_next⟩)
    (cclaw_next : PySem.W.codeIn K cdlaw_next "_law_next" = true)
    (kklaw_next : PySem.W.keepIn K (.ref flaw_next) = true)
    (alaw_cell : PySem.W.nsIn K mainGlobals "_law_cell" = some (some (.ref flaw_cell)))
    (llaw_cell : K.lookup flaw_cell = some ⟨oclaw_cell, odlaw_cell, .func (PySem.W.fnOf "_law_cell" "_law_cell" (defArgs slaw_cell) (defBody slaw_cell) (defScope slaw_cell) .none kVlaw_cell dclaw_cell pmlaw_cell anlaw_cell cdlaw_cell ctlaw_cell), sllaw_cell⟩)
    (cclaw_cell : PySem.W.codeIn K cdlaw_cell "_law_cell" = true)
    (kklaw_cell : PySem.W.keepIn K (.ref flaw_cell) = true)
    (alaw_state : PySem.W.nsIn K mainGlobals "_law_state" = some (some (.ref flaw_state)))
    (llaw_state : K.lookup flaw_state = some ⟨oclaw_state, odlaw_state, .func (PySem.W.fnOf "_law_state" "_law_state" (defArgs slaw_state) (defBody slaw_state) (defScope slaw_state) .none kVlaw_state dclaw_state pmlaw_state anlaw_state cdlaw_state ctlaw_state), sllaw_state⟩)
    (cclaw_state : PySem.W.codeIn K cdlaw_state "_law_state" = true)
    (kklaw_state : PySem.W.keepIn K (.ref flaw_state) = true)
    (alaw_told : PySem.W.nsIn K mainGlobals "_law_told" = some (some (.ref flaw_told)))
    (llaw_told : K.lookup flaw_told = some ⟨oclaw_told, odlaw_told, .func (PySem.W.fnOf "_law_told" "_law_told" (defArgs slaw_told) (defBody slaw_told) (defScope slaw_told) .none kVlaw_told dclaw_told pmlaw_told anlaw_told cdlaw_told ctlaw_told), sllaw_told⟩)
    (cclaw_told : PySem.W.codeIn K cdlaw_told "_law_told" = true)
    (kklaw_told : PySem.W.keepIn K (.ref flaw_told) = true)
    (alaw_moves : PySem.W.nsIn K mainGlobals "_law_moves" = some (some (.ref flaw_moves)))
    (llaw_moves : K.lookup flaw_moves = some ⟨oclaw_moves, odlaw_moves, .func (PySem.W.fnOf "_law_moves" "_law_moves" (defArgs slaw_moves) (defBody slaw_moves) (defScope slaw_moves) .none kVlaw_moves dclaw_moves pmlaw_moves anlaw_moves cdlaw_moves ctlaw_moves), sllaw_moves⟩)
    (cclaw_moves : PySem.W.codeIn K cdlaw_moves "_law_moves" = true)
    (kklaw_moves : PySem.W.keepIn K (.ref flaw_moves) = true)
    (alaw_numbers : PySem.W.nsIn K mainGlobals "_law_numbers" = some (some (.ref flaw_numbers)))
    (llaw_numbers : K.lookup flaw_numbers = some ⟨oclaw_numbers, odlaw_numbers, .func (PySem.W.fnOf "_law_numbers" "_law_numbers" (defArgs slaw_numbers) (defBody slaw_numbers) (defScope slaw_numbers) .none kVlaw_numbers dclaw_numbers pmlaw_numbers anlaw_numbers cdlaw_numbers ctlaw_numbers), sllaw_numbers⟩)
    (cclaw_numbers : PySem.W.codeIn K cdlaw_numbers "_law_numbers" = true)
    (kklaw_numbers : PySem.W.keepIn K (.ref flaw_numbers) = true)
    (alaw : PySem.W.nsIn K mainGlobals "law" = some (some (.ref flaw)))
    (llaw : K.lookup flaw = some ⟨oclaw, odlaw, .func (PySem.W.fnOf "law" "law" (defArgs slaw) (defBody slaw) (defScope slaw) .none kVlaw dclaw pmlaw anlaw cdlaw ctlaw), sllaw⟩)
    (cclaw : PySem.W.codeIn K cdlaw "law" = true)
    (kklaw : PySem.W.keepIn K (.ref flaw) = true)
    (pg_Takings : PySem.W.plainGet K cTakings Str.empty = true)
    (hd_Takings : PySem.W.hasDictIn K cTakings = true)
    (po_Takings : PySem.W.plainOver K cTakings = true)
    (sa_Takings : PySem.W.findIn K (.ref cTakings) "__setattr__" = some (some (.builtin "object.__setattr__")))
    (mk_Takings : PySem.W.makesIn K cTakings = true)
    (kc_Takings : PySem.W.keepIn K (.ref cTakings) = true)
    (oc_Takings : PySem.W.findIn K (.ref cTakings) "__class__" = some (some (.builtin "object.__class__")))
    (om_Takings : PySem.W.mroIn K cTakings (.type "object") = some true)
    (na_Takings_takings : PySem.W.findIn K (.ref cTakings) "takings" = some none)
    (fm_Takings_moves : PySem.W.findIn K (.ref cTakings) "moves" = some (some (.ref fRule_moves)))
    (ys_Takings_Rule : PySem.W.subIn K (.ref cTakings) (.ref cRule) = some true)
    (ys_Takings_Takings : PySem.W.subIn K (.ref cTakings) (.ref cTakings) = some true)
    (ys_Takings_Turned : PySem.W.subIn K (.ref cTakings) (.ref cTurned) = some false)
    (pg_Turned : PySem.W.plainGet K cTurned Str.empty = true)
    (hd_Turned : PySem.W.hasDictIn K cTurned = true)
    (po_Turned : PySem.W.plainOver K cTurned = true)
    (sa_Turned : PySem.W.findIn K (.ref cTurned) "__setattr__" = some (some (.builtin "object.__setattr__")))
    (mk_Turned : PySem.W.makesIn K cTurned = true)
    (kc_Turned : PySem.W.keepIn K (.ref cTurned) = true)
    (oc_Turned : PySem.W.findIn K (.ref cTurned) "__class__" = some (some (.builtin "object.__class__")))
    (om_Turned : PySem.W.mroIn K cTurned (.type "object") = some true)
    (na_Turned_inner : PySem.W.findIn K (.ref cTurned) "inner" = some none)
    (fm_Turned_moves : PySem.W.findIn K (.ref cTurned) "moves" = some (some (.ref fRule_moves)))
    (ys_Turned_Rule : PySem.W.subIn K (.ref cTurned) (.ref cRule) = some true)
    (ys_Turned_Takings : PySem.W.subIn K (.ref cTurned) (.ref cTakings) = some false)
    (ys_Turned_Turned : PySem.W.subIn K (.ref cTurned) (.ref cTurned) = some true)
    (og : PySem.W.specialIn K (.builtin "object.__class__") "__get__" = some (some (.builtin "getset_descriptor.__get__")))
    (ot : PySem.W.takesIn K (.builtin "object.__class__") = some true)
    (xi_Rule : PySem.W.isClsIn K cRule = true)
    (xt_Rule : PySem.W.typeIn K (.ref cRule) = some (.type "type"))
    (sd_Rule : PySem.W.subIn K (.ref cRule) (.ref cRule) = some true)
    (xi_Takings : PySem.W.isClsIn K cTakings = true)
    (xt_Takings : PySem.W.typeIn K (.ref cTakings) = some (.type "type"))
    (sd_Takings : PySem.W.subIn K (.ref cTakings) (.ref cTakings) = some true)
    (xi_Turned : PySem.W.isClsIn K cTurned = true)
    (xt_Turned : PySem.W.typeIn K (.ref cTurned) = some (.type "type"))
    (sd_Turned : PySem.W.subIn K (.ref cTurned) (.ref cTurned) = some true)
    (xk_DuelError : PySem.W.keepIn K (.ref cDuelError) = true)
    (xb_DuelError : PySem.W.subIn K (.ref cDuelError) (.type "BaseException") = some true)
    (xt_DuelError : PySem.W.typeIn K (.ref cDuelError) = some (.type "type"))
    (xi_DuelError : PySem.W.isClsIn K cDuelError = true)
    (xg_DuelError : PySem.W.findIn K (.ref cDuelError) "__getattribute__" = some (some (.builtin "BaseException.__getattribute__")))
    (xq_DuelError : PySem.W.findIn K (.ref cDuelError) "__getattr__" = some none)
    (xd_DuelError : PySem.W.hasDictIn K cDuelError = true)
    (xa_DuelError : PySem.W.findIn K (.ref cDuelError) "__class__" = some (some (.builtin "object.__class__")))
    (xm_DuelError : PySem.W.mroIn K cDuelError (.type "object") = some true)
    (ys_DuelError_DuelError : PySem.W.subIn K (.ref cDuelError) (.ref cDuelError) = some true)
    (ys_DuelError_NoRule : PySem.W.subIn K (.ref cDuelError) (.ref cNoRule) = some false)
    (ys_DuelError_NoBoard : PySem.W.subIn K (.ref cDuelError) (.ref cNoBoard) = some false)
    (ys_DuelError_NoHand : PySem.W.subIn K (.ref cDuelError) (.ref cNoHand) = some false)
    (kv_DuelError : PySem.W.subIn K (.ref cDuelError) (.type "ValueError") = some true)
    (xe_NoRule : PySem.W.excIn K cNoRule [.type "ValueError", .type "Exception", .type "BaseException", .type "object"] "ValueError.__new__" = true)
    (xk_NoRule : PySem.W.keepIn K (.ref cNoRule) = true)
    (xb_NoRule : PySem.W.subIn K (.ref cNoRule) (.type "BaseException") = some true)
    (xt_NoRule : PySem.W.typeIn K (.ref cNoRule) = some (.type "type"))
    (xi_NoRule : PySem.W.isClsIn K cNoRule = true)
    (xg_NoRule : PySem.W.findIn K (.ref cNoRule) "__getattribute__" = some (some (.builtin "BaseException.__getattribute__")))
    (xq_NoRule : PySem.W.findIn K (.ref cNoRule) "__getattr__" = some none)
    (xd_NoRule : PySem.W.hasDictIn K cNoRule = true)
    (xa_NoRule : PySem.W.findIn K (.ref cNoRule) "__class__" = some (some (.builtin "object.__class__")))
    (xm_NoRule : PySem.W.mroIn K cNoRule (.type "object") = some true)
    (ys_NoRule_DuelError : PySem.W.subIn K (.ref cNoRule) (.ref cDuelError) = some true)
    (ys_NoRule_NoRule : PySem.W.subIn K (.ref cNoRule) (.ref cNoRule) = some true)
    (ys_NoRule_NoBoard : PySem.W.subIn K (.ref cNoRule) (.ref cNoBoard) = some false)
    (ys_NoRule_NoHand : PySem.W.subIn K (.ref cNoRule) (.ref cNoHand) = some false)
    (kv_NoRule : PySem.W.subIn K (.ref cNoRule) (.type "ValueError") = some true)
    (xe_NoBoard : PySem.W.excIn K cNoBoard [.type "ValueError", .type "Exception", .type "BaseException", .type "object"] "ValueError.__new__" = true)
    (xk_NoBoard : PySem.W.keepIn K (.ref cNoBoard) = true)
    (xb_NoBoard : PySem.W.subIn K (.ref cNoBoard) (.type "BaseException") = some true)
    (xt_NoBoard : PySem.W.typeIn K (.ref cNoBoard) = some (.type "type"))
    (xi_NoBoard : PySem.W.isClsIn K cNoBoard = true)
    (xg_NoBoard : PySem.W.findIn K (.ref cNoBoard) "__getattribute__" = some (some (.builtin "BaseException.__getattribute__")))
    (xq_NoBoard : PySem.W.findIn K (.ref cNoBoard) "__getattr__" = some none)
    (xd_NoBoard : PySem.W.hasDictIn K cNoBoard = true)
    (xa_NoBoard : PySem.W.findIn K (.ref cNoBoard) "__class__" = some (some (.builtin "object.__class__")))
    (xm_NoBoard : PySem.W.mroIn K cNoBoard (.type "object") = some true)
    (ys_NoBoard_DuelError : PySem.W.subIn K (.ref cNoBoard) (.ref cDuelError) = some true)
    (ys_NoBoard_NoRule : PySem.W.subIn K (.ref cNoBoard) (.ref cNoRule) = some false)
    (ys_NoBoard_NoBoard : PySem.W.subIn K (.ref cNoBoard) (.ref cNoBoard) = some true)
    (ys_NoBoard_NoHand : PySem.W.subIn K (.ref cNoBoard) (.ref cNoHand) = some false)
    (kv_NoBoard : PySem.W.subIn K (.ref cNoBoard) (.type "ValueError") = some true)
    (xe_NoHand : PySem.W.excIn K cNoHand [.type "ValueError", .type "Exception", .type "BaseException", .type "object"] "ValueError.__new__" = true)
    (xk_NoHand : PySem.W.keepIn K (.ref cNoHand) = true)
    (xb_NoHand : PySem.W.subIn K (.ref cNoHand) (.type "BaseException") = some true)
    (xt_NoHand : PySem.W.typeIn K (.ref cNoHand) = some (.type "type"))
    (xi_NoHand : PySem.W.isClsIn K cNoHand = true)
    (xg_NoHand : PySem.W.findIn K (.ref cNoHand) "__getattribute__" = some (some (.builtin "BaseException.__getattribute__")))
    (xq_NoHand : PySem.W.findIn K (.ref cNoHand) "__getattr__" = some none)
    (xd_NoHand : PySem.W.hasDictIn K cNoHand = true)
    (xa_NoHand : PySem.W.findIn K (.ref cNoHand) "__class__" = some (some (.builtin "object.__class__")))
    (xm_NoHand : PySem.W.mroIn K cNoHand (.type "object") = some true)
    (ys_NoHand_DuelError : PySem.W.subIn K (.ref cNoHand) (.ref cDuelError) = some true)
    (ys_NoHand_NoRule : PySem.W.subIn K (.ref cNoHand) (.ref cNoRule) = some false)
    (ys_NoHand_NoBoard : PySem.W.subIn K (.ref cNoHand) (.ref cNoBoard) = some false)
    (ys_NoHand_NoHand : PySem.W.subIn K (.ref cNoHand) (.ref cNoHand) = some true)
    (kv_NoHand : PySem.W.subIn K (.ref cNoHand) (.type "ValueError") = some true)
    (zz_all : PySem.W.nsIn K mainGlobals "all" = some none)
    (zz_bool : PySem.W.nsIn K mainGlobals "bool" = some none)
    (zz_enumerate : PySem.W.nsIn K mainGlobals "enumerate" = some none)
    (zz_int : PySem.W.nsIn K mainGlobals "int" = some none)
    (zz_isinstance : PySem.W.nsIn K mainGlobals "isinstance" = some none)
    (zz_len : PySem.W.nsIn K mainGlobals "len" = some none)
    (zz_list : PySem.W.nsIn K mainGlobals "list" = some none)
    (zz_range : PySem.W.nsIn K mainGlobals "range" = some none)
    (zz_set : PySem.W.nsIn K mainGlobals "set" = some none)
    (zz_sorted : PySem.W.nsIn K mainGlobals "sorted" = some none)
    (zz_str : PySem.W.nsIn K mainGlobals "str" = some none)
    (kn_MOST_FIGURES : PySem.W.nsIn K mainGlobals "MOST_FIGURES" = some (some (.int 5 tMOST_FIGURES)))
    (kn_FIGURES : PySem.W.nsIn K mainGlobals "FIGURES" = some (some (.str "0123456789" tFIGURES)))
    (kn_HANDS : PySem.W.nsIn K mainGlobals "HANDS" = some (some (.ref aHANDS)))
    (kl_HANDS : K.lookup aHANDS = some ⟨.type "tuple", ddHANDS, .seq #[.str "up" tHANDS0, .str "down" tHANDS1] nnHANDS, ssHANDS⟩)
    : ∃ fd : FuncData, (∀ (s : Shared) (v : Value), BindsTo s fd ⟨[v], []⟩ [("_law_script", v)]) ∧ ∀ base : Heap, K.In base → base.Ns mainGlobals mg → FnOk l.prog w K mg base CX0 12 fa fd ["_law_script"] (spLaw K) := by
  have e := hfa.symm.trans (PySem.W.mg_of X G alaw)
  cases e
  let A : Ad := { fis_number := fis_number, dis_number := PySem.W.fnOf "is_number" "is_number" (defArgs sis_number) (defBody sis_number) (defScope sis_number) .none kVis_number dcis_number pmis_number anis_number cdis_number ctis_number, fRule_moves := fRule_moves, dRule_moves := PySem.W.fnOf "moves" "Rule.moves" (defArgs sRule_moves) (defBody sRule_moves) (defScope sRule_moves) .none kVRule_moves dcRule_moves pmRule_moves anRule_moves cdRule_moves ctRule_moves, fTakings___init__ := fTakings___init__, dTakings___init__ := PySem.W.fnOf "__init__" "Takings.__init__" (defArgs sTakings___init__) (defBody sTakings___init__) (defScope sTakings___init__) .none kVTakings___init__ dcTakings___init__ pmTakings___init__ anTakings___init__ cdTakings___init__ ctTakings___init__, fTakings_good_numbers := fTakings_good_numbers, dTakings_good_numbers := PySem.W.fnOf "good_numbers" "Takings.good_numbers" (defArgs sTakings_good_numbers) (defBody sTakings_good_numbers) (defScope sTakings_good_numbers) .none kVTakings_good_numbers dcTakings_good_numbers pmTakings_good_numbers anTakings_good_numbers cdTakings_good_numbers ctTakings_good_numbers, fTakings_is_board := fTakings_is_board, dTakings_is_board := PySem.W.fnOf "is_board" "Takings.is_board" (defArgs sTakings_is_board) (defBody sTakings_is_board) (defScope sTakings_is_board) .none kVTakings_is_board dcTakings_is_board pmTakings_is_board anTakings_is_board cdTakings_is_board ctTakings_is_board, fTakings_changed := fTakings_changed, dTakings_changed := PySem.W.fnOf "changed" "Takings.changed" (defArgs sTakings_changed) (defBody sTakings_changed) (defScope sTakings_changed) .none kVTakings_changed dcTakings_changed pmTakings_changed anTakings_changed cdTakings_changed ctTakings_changed, fTurned___init__ := fTurned___init__, dTurned___init__ := PySem.W.fnOf "__init__" "Turned.__init__" (defArgs sTurned___init__) (defBody sTurned___init__) (defScope sTurned___init__) .none kVTurned___init__ dcTurned___init__ pmTurned___init__ anTurned___init__ cdTurned___init__ ctTurned___init__, fTurned_is_board := fTurned_is_board, dTurned_is_board := PySem.W.fnOf "is_board" "Turned.is_board" (defArgs sTurned_is_board) (defBody sTurned_is_board) (defScope sTurned_is_board) .none kVTurned_is_board dcTurned_is_board pmTurned_is_board anTurned_is_board cdTurned_is_board ctTurned_is_board, fTurned_changed := fTurned_changed, dTurned_changed := PySem.W.fnOf "changed" "Turned.changed" (defArgs sTurned_changed) (defBody sTurned_changed) (defScope sTurned_changed) .none kVTurned_changed dcTurned_changed pmTurned_changed anTurned_changed cdTurned_changed ctTurned_changed, flaw_next := flaw_next, dlaw_next := PySem.W.fnOf "_law_next" "_law_next" (defArgs slaw_next) (defBody slaw_next) (defScope slaw_next) .none kVlaw_next dclaw_next pmlaw_next anlaw_next cdlaw_next ctlaw_next, flaw_cell := flaw_cell, dlaw_cell := PySem.W.fnOf "_law_cell" "_law_cell" (defArgs slaw_cell) (defBody slaw_cell) (defScope slaw_cell) .none kVlaw_cell dclaw_cell pmlaw_cell anlaw_cell cdlaw_cell ctlaw_cell, flaw_state := flaw_state, dlaw_state := PySem.W.fnOf "_law_state" "_law_state" (defArgs slaw_state) (defBody slaw_state) (defScope slaw_state) .none kVlaw_state dclaw_state pmlaw_state anlaw_state cdlaw_state ctlaw_state, flaw_told := flaw_told, dlaw_told := PySem.W.fnOf "_law_told" "_law_told" (defArgs slaw_told) (defBody slaw_told) (defScope slaw_told) .none kVlaw_told dclaw_told pmlaw_told anlaw_told cdlaw_told ctlaw_told, flaw_moves := flaw_moves, dlaw_moves := PySem.W.fnOf "_law_moves" "_law_moves" (defArgs slaw_moves) (defBody slaw_moves) (defScope slaw_moves) .none kVlaw_moves dclaw_moves pmlaw_moves anlaw_moves cdlaw_moves ctlaw_moves, flaw_numbers := flaw_numbers, dlaw_numbers := PySem.W.fnOf "_law_numbers" "_law_numbers" (defArgs slaw_numbers) (defBody slaw_numbers) (defScope slaw_numbers) .none kVlaw_numbers dclaw_numbers pmlaw_numbers anlaw_numbers cdlaw_numbers ctlaw_numbers, flaw := fa, dlaw := PySem.W.fnOf "law" "law" (defArgs slaw) (defBody slaw) (defScope slaw) .none kVlaw dclaw pmlaw anlaw cdlaw ctlaw, cDuelError := cDuelError, cNoRule := cNoRule, cNoBoard := cNoBoard, cNoHand := cNoHand, cRule := cRule, cTakings := cTakings, cTurned := cTurned, aHANDS := aHANDS }
  have T : Txt K mg A := {
    Fis_number := fun_mk (st := sis_number) lis_number ccis_number kkis_number,
    Bis_number := (fun_mk (st := sis_number) lis_number ccis_number kkis_number).binds (ps := ["thing", "least", "most"]) fun _ _ _ _ _ _ us hl => match us, hl with | [_, _, _], _ => rfl,
    mis_number := PySem.W.mg_of X G ais_number,
    FRule_moves := fun_mk (st := sRule_moves) lRule_moves ccRule_moves kkRule_moves,
    BRule_moves := (fun_mk (st := sRule_moves) lRule_moves ccRule_moves kkRule_moves).binds (ps := ["self", "board", "hand"]) fun _ _ _ _ _ _ us hl => match us, hl with | [_, _, _], _ => rfl,
    FTakings___init__ := fun_mk (st := sTakings___init__) lTakings___init__ ccTakings___init__ kkTakings___init__,
    BTakings___init__ := (fun_mk (st := sTakings___init__) lTakings___init__ ccTakings___init__ kkTakings___init__).binds (ps := ["self", "ups", "downs"]) fun _ _ _ _ _ _ us hl => match us, hl with | [_, _, _], _ => rfl,
    FTakings_good_numbers := fun_mk (st := sTakings_good_numbers) lTakings_good_numbers ccTakings_good_numbers kkTakings_good_numbers,
    BTakings_good_numbers := (fun_mk (st := sTakings_good_numbers) lTakings_good_numbers ccTakings_good_numbers kkTakings_good_numbers).binds (ps := ["self", "numbers"]) fun _ _ _ _ _ _ us hl => match us, hl with | [_, _], _ => rfl,
    FTakings_is_board := fun_mk (st := sTakings_is_board) lTakings_is_board ccTakings_is_board kkTakings_is_board,
    BTakings_is_board := (fun_mk (st := sTakings_is_board) lTakings_is_board ccTakings_is_board kkTakings_is_board).binds (ps := ["self", "board"]) fun _ _ _ _ _ _ us hl => match us, hl with | [_, _], _ => rfl,
    FTakings_changed := fun_mk (st := sTakings_changed) lTakings_changed ccTakings_changed kkTakings_changed,
    BTakings_changed := (fun_mk (st := sTakings_changed) lTakings_changed ccTakings_changed kkTakings_changed).binds (ps := ["self", "board", "hand"]) fun _ _ _ _ _ _ us hl => match us, hl with | [_, _, _], _ => rfl,
    FTurned___init__ := fun_mk (st := sTurned___init__) lTurned___init__ ccTurned___init__ kkTurned___init__,
    BTurned___init__ := (fun_mk (st := sTurned___init__) lTurned___init__ ccTurned___init__ kkTurned___init__).binds (ps := ["self", "rule"]) fun _ _ _ _ _ _ us hl => match us, hl with | [_, _], _ => rfl,
    FTurned_is_board := fun_mk (st := sTurned_is_board) lTurned_is_board ccTurned_is_board kkTurned_is_board,
    BTurned_is_board := (fun_mk (st := sTurned_is_board) lTurned_is_board ccTurned_is_board kkTurned_is_board).binds (ps := ["self", "board"]) fun _ _ _ _ _ _ us hl => match us, hl with | [_, _], _ => rfl,
    FTurned_changed := fun_mk (st := sTurned_changed) lTurned_changed ccTurned_changed kkTurned_changed,
    BTurned_changed := (fun_mk (st := sTurned_changed) lTurned_changed ccTurned_changed kkTurned_changed).binds (ps := ["self", "board", "hand"]) fun _ _ _ _ _ _ us hl => match us, hl with | [_, _, _], _ => rfl,
    Flaw_next := fun_mk (st := slaw_next) llaw_next cclaw_next kklaw_next,
    Blaw_next := (fun_mk (st := slaw_next) llaw_next cclaw_next kklaw_next).binds (ps := ["_law_state_here", "_law_many"]) fun _ _ _ _ _ _ us hl => match us, hl with | [_, _], _ => rfl,
    mlaw_next := PySem.W.mg_of X G alaw_next,
    Flaw_cell := fun_mk (st := slaw_cell) llaw_cell cclaw_cell kklaw_cell,
    Blaw_cell := (fun_mk (st := slaw_cell) llaw_cell cclaw_cell kklaw_cell).binds (ps := ["_law_script", "_law_k"]) fun _ _ _ _ _ _ us hl => match us, hl with | [_, _], _ => rfl,
    mlaw_cell := PySem.W.mg_of X G alaw_cell,
    Flaw_state := fun_mk (st := slaw_state) llaw_state cclaw_state kklaw_state,
    Blaw_state := (fun_mk (st := slaw_state) llaw_state cclaw_state kklaw_state).binds (ps := ["_law_cell_here", "_law_k"]) fun _ _ _ _ _ _ us hl => match us, hl with | [_, _], _ => rfl,
    mlaw_state := PySem.W.mg_of X G alaw_state,
    Flaw_told := fun_mk (st := slaw_told) llaw_told cclaw_told kklaw_told,
    Blaw_told := (fun_mk (st := slaw_told) llaw_told cclaw_told kklaw_told).binds (ps := ["_law_rule", "_law_board", "_law_hand"]) fun _ _ _ _ _ _ us hl => match us, hl with | [_, _, _], _ => rfl,
    mlaw_told := PySem.W.mg_of X G alaw_told,
    Flaw_moves := fun_mk (st := slaw_moves) llaw_moves cclaw_moves kklaw_moves,
    Blaw_moves := (fun_mk (st := slaw_moves) llaw_moves cclaw_moves kklaw_moves).binds (ps := ["_law_numbers_here", "_law_board"]) fun _ _ _ _ _ _ us hl => match us, hl with | [_, _], _ => rfl,
    mlaw_moves := PySem.W.mg_of X G alaw_moves,
    Flaw_numbers := fun_mk (st := slaw_numbers) llaw_numbers cclaw_numbers kklaw_numbers,
    Blaw_numbers := (fun_mk (st := slaw_numbers) llaw_numbers cclaw_numbers kklaw_numbers).binds (ps := ["_law_cell_here"]) fun _ _ _ _ _ _ us hl => match us, hl with | [_], _ => rfl,
    mlaw_numbers := PySem.W.mg_of X G alaw_numbers,
    Flaw := fun_mk (st := slaw) llaw cclaw kklaw,
    Blaw := (fun_mk (st := slaw) llaw cclaw kklaw).binds (ps := ["_law_script"]) fun _ _ _ _ _ _ us hl => match us, hl with | [_], _ => rfl,
    mlaw := PySem.W.mg_of X G alaw,
    mDuelError := PySem.W.mg_of X G nDuelError,
    mNoRule := PySem.W.mg_of X G nNoRule,
    mNoBoard := PySem.W.mg_of X G nNoBoard,
    mNoHand := PySem.W.mg_of X G nNoHand,
    mRule := PySem.W.mg_of X G nRule,
    mTakings := PySem.W.mg_of X G nTakings,
    mTurned := PySem.W.mg_of X G nTurned,
    clTakings := ⟨pg_Takings, hd_Takings, po_Takings, sa_Takings⟩,
    coTakings := ⟨oc_Takings, og, ot, om_Takings⟩,
    mkTakings := ⟨mk_Takings, aTakings___init__, iiTakings___init__, kc_Takings⟩,
    nTakings_takings := na_Takings_takings,
    hTakings_good_numbers := ⟨aTakings_good_numbers, iiTakings_good_numbers, kkTakings_good_numbers⟩,
    hTakings_is_board := ⟨aTakings_is_board, iiTakings_is_board, kkTakings_is_board⟩,
    hTakings_changed := ⟨aTakings_changed, iiTakings_changed, kkTakings_changed⟩,
    hTakings_moves := ⟨fm_Takings_moves, iiRule_moves, kkRule_moves⟩,
    iTakings_Rule := kit_own xi_Rule xt_Rule sd_Rule ys_Takings_Rule,
    iTakings_Takings := kit_own xi_Takings xt_Takings sd_Takings ys_Takings_Takings,
    iTakings_Turned := kit_own xi_Turned xt_Turned sd_Turned ys_Takings_Turned,
    clTurned := ⟨pg_Turned, hd_Turned, po_Turned, sa_Turned⟩,
    coTurned := ⟨oc_Turned, og, ot, om_Turned⟩,
    mkTurned := ⟨mk_Turned, aTurned___init__, iiTurned___init__, kc_Turned⟩,
    nTurned_inner := na_Turned_inner,
    hTurned_is_board := ⟨aTurned_is_board, iiTurned_is_board, kkTurned_is_board⟩,
    hTurned_changed := ⟨aTurned_changed, iiTurned_changed, kkTurned_changed⟩,
    hTurned_moves := ⟨fm_Turned_moves, iiRule_moves, kkRule_moves⟩,
    iTurned_Rule := kit_own xi_Rule xt_Rule sd_Rule ys_Turned_Rule,
    iTurned_Takings := kit_own xi_Takings xt_Takings sd_Takings ys_Turned_Takings,
    iTurned_Turned := kit_own xi_Turned xt_Turned sd_Turned ys_Turned_Turned,
    i_int_Rule := kit_own xi_Rule xt_Rule sd_Rule (sub_bt (by decide +kernel)),
    i_str_Rule := kit_own xi_Rule xt_Rule sd_Rule (sub_bt (by decide +kernel)),
    i_NoneType_Rule := kit_own xi_Rule xt_Rule sd_Rule (sub_bt (by decide +kernel)),
    i_bool_Rule := kit_own xi_Rule xt_Rule sd_Rule (sub_bt (by decide +kernel)),
    i_list_Rule := kit_own xi_Rule xt_Rule sd_Rule (sub_bt (by decide +kernel)),
    i_tuple_Rule := kit_own xi_Rule xt_Rule sd_Rule (sub_bt (by decide +kernel)),
    i_dict_Rule := kit_own xi_Rule xt_Rule sd_Rule (sub_bt (by decide +kernel)),
    i_int_Takings := kit_own xi_Takings xt_Takings sd_Takings (sub_bt (by decide +kernel)),
    i_str_Takings := kit_own xi_Takings xt_Takings sd_Takings (sub_bt (by decide +kernel)),
    i_NoneType_Takings := kit_own xi_Takings xt_Takings sd_Takings (sub_bt (by decide +kernel)),
    i_bool_Takings := kit_own xi_Takings xt_Takings sd_Takings (sub_bt (by decide +kernel)),
    i_list_Takings := kit_own xi_Takings xt_Takings sd_Takings (sub_bt (by decide +kernel)),
    i_tuple_Takings := kit_own xi_Takings xt_Takings sd_Takings (sub_bt (by decide +kernel)),
    i_dict_Takings := kit_own xi_Takings xt_Takings sd_Takings (sub_bt (by decide +kernel)),
    i_int_Turned := kit_own xi_Turned xt_Turned sd_Turned (sub_bt (by decide +kernel)),
    i_str_Turned := kit_own xi_Turned xt_Turned sd_Turned (sub_bt (by decide +kernel)),
    i_NoneType_Turned := kit_own xi_Turned xt_Turned sd_Turned (sub_bt (by decide +kernel)),
    i_bool_Turned := kit_own xi_Turned xt_Turned sd_Turned (sub_bt (by decide +kernel)),
    i_list_Turned := kit_own xi_Turned xt_Turned sd_Turned (sub_bt (by decide +kernel)),
    i_tuple_Turned := kit_own xi_Turned xt_Turned sd_Turned (sub_bt (by decide +kernel)),
    i_dict_Turned := kit_own xi_Turned xt_Turned sd_Turned (sub_bt (by decide +kernel)),
    yDuelError_DuelError := PySem.W.exm_ref xb_DuelError xd_DuelError xt_DuelError ys_DuelError_DuelError,
    wDuelError_DuelError := kit_own xi_DuelError xt_DuelError ys_DuelError_DuelError ys_DuelError_DuelError,
    yDuelError_NoRule := PySem.W.exm_ref xb_NoRule xd_NoRule xt_NoRule ys_DuelError_NoRule,
    wDuelError_NoRule := kit_own xi_NoRule xt_NoRule ys_NoRule_NoRule ys_DuelError_NoRule,
    yDuelError_NoBoard := PySem.W.exm_ref xb_NoBoard xd_NoBoard xt_NoBoard ys_DuelError_NoBoard,
    wDuelError_NoBoard := kit_own xi_NoBoard xt_NoBoard ys_NoBoard_NoBoard ys_DuelError_NoBoard,
    yDuelError_NoHand := PySem.W.exm_ref xb_NoHand xd_NoHand xt_NoHand ys_DuelError_NoHand,
    wDuelError_NoHand := kit_own xi_NoHand xt_NoHand ys_NoHand_NoHand ys_DuelError_NoHand,
    vDuelError := kit_typ (by decide +kernel) kv_DuelError,
    xNoRule := ⟨xe_NoRule, xk_NoRule, xb_NoRule, xt_NoRule, xi_NoRule, ⟨xg_NoRule, xq_NoRule, xb_NoRule, xd_NoRule, xa_NoRule, og, ot, xm_NoRule⟩⟩,
    yNoRule_DuelError := PySem.W.exm_ref xb_DuelError xd_DuelError xt_DuelError ys_NoRule_DuelError,
    wNoRule_DuelError := kit_own xi_DuelError xt_DuelError ys_DuelError_DuelError ys_NoRule_DuelError,
    yNoRule_NoRule := PySem.W.exm_ref xb_NoRule xd_NoRule xt_NoRule ys_NoRule_NoRule,
    wNoRule_NoRule := kit_own xi_NoRule xt_NoRule ys_NoRule_NoRule ys_NoRule_NoRule,
    yNoRule_NoBoard := PySem.W.exm_ref xb_NoBoard xd_NoBoard xt_NoBoard ys_NoRule_NoBoard,
    wNoRule_NoBoard := kit_own xi_NoBoard xt_NoBoard ys_NoBoard_NoBoard ys_NoRule_NoBoard,
    yNoRule_NoHand := PySem.W.exm_ref xb_NoHand xd_NoHand xt_NoHand ys_NoRule_NoHand,
    wNoRule_NoHand := kit_own xi_NoHand xt_NoHand ys_NoHand_NoHand ys_NoRule_NoHand,
    vNoRule := kit_typ (by decide +kernel) kv_NoRule,
    xNoBoard := ⟨xe_NoBoard, xk_NoBoard, xb_NoBoard, xt_NoBoard, xi_NoBoard, ⟨xg_NoBoard, xq_NoBoard, xb_NoBoard, xd_NoBoard, xa_NoBoard, og, ot, xm_NoBoard⟩⟩,
    yNoBoard_DuelError := PySem.W.exm_ref xb_DuelError xd_DuelError xt_DuelError ys_NoBoard_DuelError,
    wNoBoard_DuelError := kit_own xi_DuelError xt_DuelError ys_DuelError_DuelError ys_NoBoard_DuelError,
    yNoBoard_NoRule := PySem.W.exm_ref xb_NoRule xd_NoRule xt_NoRule ys_NoBoard_NoRule,
    wNoBoard_NoRule := kit_own xi_NoRule xt_NoRule ys_NoRule_NoRule ys_NoBoard_NoRule,
    yNoBoard_NoBoard := PySem.W.exm_ref xb_NoBoard xd_NoBoard xt_NoBoard ys_NoBoard_NoBoard,
    wNoBoard_NoBoard := kit_own xi_NoBoard xt_NoBoard ys_NoBoard_NoBoard ys_NoBoard_NoBoard,
    yNoBoard_NoHand := PySem.W.exm_ref xb_NoHand xd_NoHand xt_NoHand ys_NoBoard_NoHand,
    wNoBoard_NoHand := kit_own xi_NoHand xt_NoHand ys_NoHand_NoHand ys_NoBoard_NoHand,
    vNoBoard := kit_typ (by decide +kernel) kv_NoBoard,
    xNoHand := ⟨xe_NoHand, xk_NoHand, xb_NoHand, xt_NoHand, xi_NoHand, ⟨xg_NoHand, xq_NoHand, xb_NoHand, xd_NoHand, xa_NoHand, og, ot, xm_NoHand⟩⟩,
    yNoHand_DuelError := PySem.W.exm_ref xb_DuelError xd_DuelError xt_DuelError ys_NoHand_DuelError,
    wNoHand_DuelError := kit_own xi_DuelError xt_DuelError ys_DuelError_DuelError ys_NoHand_DuelError,
    yNoHand_NoRule := PySem.W.exm_ref xb_NoRule xd_NoRule xt_NoRule ys_NoHand_NoRule,
    wNoHand_NoRule := kit_own xi_NoRule xt_NoRule ys_NoRule_NoRule ys_NoHand_NoRule,
    yNoHand_NoBoard := PySem.W.exm_ref xb_NoBoard xd_NoBoard xt_NoBoard ys_NoHand_NoBoard,
    wNoHand_NoBoard := kit_own xi_NoBoard xt_NoBoard ys_NoBoard_NoBoard ys_NoHand_NoBoard,
    yNoHand_NoHand := PySem.W.exm_ref xb_NoHand xd_NoHand xt_NoHand ys_NoHand_NoHand,
    wNoHand_NoHand := kit_own xi_NoHand xt_NoHand ys_NoHand_NoHand ys_NoHand_NoHand,
    vNoHand := kit_typ (by decide +kernel) kv_NoHand,
    z_all := PySem.W.mg_none_of X G zz_all,
    z_bool := PySem.W.mg_none_of X G zz_bool,
    z_enumerate := PySem.W.mg_none_of X G zz_enumerate,
    z_int := PySem.W.mg_none_of X G zz_int,
    z_isinstance := PySem.W.mg_none_of X G zz_isinstance,
    z_len := PySem.W.mg_none_of X G zz_len,
    z_list := PySem.W.mg_none_of X G zz_list,
    z_range := PySem.W.mg_none_of X G zz_range,
    z_set := PySem.W.mg_none_of X G zz_set,
    z_sorted := PySem.W.mg_none_of X G zz_sorted,
    z_str := PySem.W.mg_none_of X G zz_str,
    kMOST_FIGURES := ⟨_, PySem.W.mg_of X G kn_MOST_FIGURES⟩,
    kFIGURES := ⟨_, PySem.W.mg_of X G kn_FIGURES⟩,
    kHANDS := PySem.W.mg_of X G kn_HANDS,
    lHANDS := ⟨_, _, _, _, kl_HANDS, rfl, .cons ⟨_, rfl⟩ (.cons ⟨_, rfl⟩ (.nil))⟩ }
  exact ⟨A.dlaw, fun s v => .of_eq rfl, fun base _ _ => ok_law T⟩
theorem walk {l : PySem.W.OpenLaw} {q : Program} {loose : List Str} {XP : (Str → Option Value) → Heap → Prop} {YP : World → Heap → Prop} {d : DefRec} {K : Params → PySem.W.Frag} (hn : l.most = some 63) (hdf : d.params.defaults = [])
    (hY : ∀ (w : World) (h : Heap), YP w h → (K w.params).In h) (F : ∀ (w : World) (mg : Str → Option Value) (fa : Addr) (h : Heap), (K w.params).In h → h.Ns mainGlobals mg → mg d.name = some (.ref fa) →
      ∃ fd : FuncData, (∀ (s : Shared) (u : Value), BindsTo s fd ⟨[u], []⟩ [("_law_script", u)]) ∧ ∀ base : Heap, (K w.params).In base → base.Ns mainGlobals mg → FnOk l.prog w (K w.params) mg base CX0 12 fa fd ["_law_script"] (spLaw (K w.params))) :
    PySem.W.WalkO q loose XP YP l.row.toRowW d [] (fun f vs => PySem.call f vs) :=
  L2.walk_of (n := 63) (k := 12) (x := "_law_script") (CX := fun _ => CX0) (sp := fun w => spLaw (K w.params)) hn (by decide) hdf ⟨rfl, by decide, by decide⟩ hY F (fun _ _ a ns hl _ hS => ⟨a, ns, rfl, hS, hl, fun _ => rfl⟩) fun _ _ _ _ _ z => z
end K73
open PySem PySem.W PyProof.Rows
set_option maxRecDepth 100000 in
set_option maxHeartbeats 0 in
theorem PySem.Challenge.cw_duelsum_k73_takings_holds : PySem.Challenge.rw_duelsum_k73_takings.Holds := by
  w_on; o_law; k_head; (case hw => w_witness2)
  k_fill
  refine K73.walk (l := PySem.Challenge.rw_duelsum_k73_takings) rfl rfl (fun w h Y => PySem.W.kIn_of Y) ?F
  case F =>
    intro w mg fa h KX G hmg
    refine' K73.all_mk KX G hmg ?nDuelError ?nNoRule ?nNoBoard ?nNoHand ?nRule ?nTakings ?nTurned ?ais_number ?lis_number ?ccis_number ?kkis_number ?aRule_moves ?lRule_moves ?ccRule_moves ?kkRule_moves ?iiRule_moves ?aTakings___init__ ?lTakings___init__ ?ccTakings___init__ ?kkTakings___init__ ?iiTakings___init__ ?aTakings_good_numbers ?lTakings_good_numbers ?ccTakings_good_numbers ?kkTakings_good_numbers ?iiTakings_good_numbers ?aTakings_is_board ?lTakings_is_board ?ccTakings_is_board ?kkTakings_is_board ?iiTakings_is_board ?aTakings_changed ?lTakings_changed ?ccTakings_changed ?kkTakings_changed ?iiTakings_changed ?aTurned___init__ ?lTurned___init__ ?ccTurned___init__ ?kkTurned___init__ ?iiTurned___init__ ?aTurned_is_board ?lTurned_is_board ?ccTurned_is_board ?kkTurned_is_board ?iiTurned_is_board ?aTurned_changed ?lTurned_changed ?ccTurned_changed ?kkTurned_changed ?iiTurned_changed ?alaw_next ?llaw_next ?cclaw_next ?kklaw_next ?alaw_cell ?llaw_cell ?cclaw_cell ?kklaw_cell ?alaw_state ?llaw_state ?cclaw_state ?kklaw_state ?alaw_told ?llaw_told ?cclaw_told ?kklaw_told ?alaw_moves ?llaw_moves ?cclaw_moves ?kklaw_moves ?alaw_numbers ?llaw_numbers ?cclaw_numbers ?kklaw_numbers ?alaw ?llaw ?cclaw ?kklaw ?pg_Takings ?hd_Takings ?po_Takings ?sa_Takings ?mk_Takings ?kc_Takings ?oc_Takings ?om_Takings ?na_Takings_takings ?fm_Takings_moves ?ys_Takings_Rule ?ys_Takings_Takings ?ys_Takings_Turned ?pg_Turned ?hd_Turned ?po_Turned ?sa_Turned ?mk_Turned ?kc_Turned ?oc_Turned ?om_Turned ?na_Turned_inner ?fm_Turned_moves ?ys_Turned_Rule ?ys_Turned_Takings ?ys_Turned_Turned ?og ?ot ?xi_Rule ?xt_Rule ?sd_Rule ?xi_Takings ?xt_Takings ?sd_Takings ?xi_Turned ?xt_Turned ?sd_Turned ?xk_DuelError ?xb_DuelError ?xt_DuelError ?xi_DuelError ?xg_DuelError ?xq_DuelError ?xd_DuelError ?xa_DuelError ?xm_DuelError ?ys_DuelError_DuelError ?ys_DuelError_NoRule ?ys_DuelError_NoBoard ?ys_DuelError_NoHand ?kv_DuelError ?xe_NoRule ?xk_NoRule ?xb_NoRule ?xt_NoRule ?xi_NoRule ?xg_NoRule ?xq_NoRule ?xd_NoRule ?xa_NoRule ?xm_NoRule ?ys_NoRule_DuelError ?ys_NoRule_NoRule ?ys_NoRule_NoBoard ?ys_NoRule_NoHand ?kv_NoRule ?xe_NoBoard ?xk_NoBoard ?xb_NoBoard ?xt_NoBoard ?xi_NoBoard ?xg_NoBoard ?xq_NoBoard ?xd_NoBoard ?xa_NoBoard ?xm_NoBoard ?ys_NoBoard_DuelError ?ys_NoBoard_NoRule ?ys_NoBoard_NoBoard ?ys_NoBoard_NoHand ?kv_NoBoard ?xe_NoHand ?xk_NoHand ?xb_NoHand ?xt_NoHand ?xi_NoHand ?xg_NoHand ?xq_NoHand ?xd_NoHand ?xa_NoHand ?xm_NoHand ?ys_NoHand_DuelError ?ys_NoHand_NoRule ?ys_NoHand_NoBoard ?ys_NoHand_NoHand ?kv_NoHand ?zz_all ?zz_bool ?zz_enumerate ?zz_int ?zz_isinstance ?zz_len ?zz_list ?zz_range ?zz_set ?zz_sorted ?zz_str ?kn_MOST_FIGURES ?kn_FIGURES ?kn_HANDS ?kl_HANDS
    (case nDuelError => k_is)
    (case nNoRule => k_is)
    (case nNoBoard => k_is)
    (case nNoHand => k_is)
    (case nRule => k_is)
    (case nTakings => k_is)
    (case nTurned => k_is)
    (case ais_number => k_is)
    (case lis_number => k_is)
    (case ccis_number => k_is)
    (case kkis_number => k_is)
    (case aRule_moves => k_is)
    (case lRule_moves => k_is)
    (case ccRule_moves => k_is)
    (case kkRule_moves => k_is)
    (case iiRule_moves => k_is)
    (case aTakings___init__ => k_is)
    (case lTakings___init__ => k_is)
    (case ccTakings___init__ => k_is)
    (case kkTakings___init__ => k_is)
    (case iiTakings___init__ => k_is)
    (case aTakings_good_numbers => k_is)
    (case lTakings_good_numbers => k_is)
    (case ccTakings_good_numbers => k_is)
    (case kkTakings_good_numbers => k_is)
    (case iiTakings_good_numbers => k_is)
    (case aTakings_is_board => k_is)
    (case lTakings_is_board => k_is)
    (case ccTakings_is_board => k_is)
    (case kkTakings_is_board => k_is)
    (case iiTakings_is_board => k_is)
    (case aTakings_changed => k_is)
    (case lTakings_changed => k_is)
    (case ccTakings_changed => k_is)
    (case kkTakings_changed => k_is)
    (case iiTakings_changed => k_is)
    (case aTurned___init__ => k_is)
    (case lTurned___init__ => k_is)
    (case ccTurned___init__ => k_is)
    (case kkTurned___init__ => k_is)
    (case iiTurned___init__ => k_is)
    (case aTurned_is_board => k_is)
    (case lTurned_is_board => k_is)
    (case ccTurned_is_board => k_is)
    (case kkTurned_is_board => k_is)
    (case iiTurned_is_board => k_is)
    (case aTurned_changed => k_is)
    (case lTurned_changed => k_is)
    (case ccTurned_changed => k_is)
    (case kkTurned_changed => k_is)
    (case iiTurned_changed => k_is)
    (case alaw_next => k_is)
    (case llaw_next => k_is)
    (case cclaw_next => k_is)
    (case kklaw_next => k_is)
    (case alaw_cell => k_is)
    (case llaw_cell => k_is)
    (case cclaw_cell => k_is)
    (case kklaw_cell => k_is)
    (case alaw_state => k_is)
    (case llaw_state => k_is)
    (case cclaw_state => k_is)
    (case kklaw_state => k_is)
    (case alaw_told => k_is)
    (case llaw_told => k_is)
    (case cclaw_told => k_is)
    (case kklaw_told => k_is)
    (case alaw_moves => k_is)
    (case llaw_moves => k_is)
    (case cclaw_moves => k_is)
    (case kklaw_moves => k_is)
    (case alaw_numbers => k_is)
    (case llaw_numbers => k_is)
    (case cclaw_numbers => k_is)
    (case kklaw_numbers => k_is)
    (case alaw => k_is)
    (case llaw => k_is)
    (case cclaw => k_is)
    (case kklaw => k_is)
    (case pg_Takings => k_is)
    (case hd_Takings => k_is)
    (case po_Takings => k_is)
    (case sa_Takings => k_is)
    (case mk_Takings => k_is)
    (case kc_Takings => k_is)
    (case oc_Takings => k_is)
    (case om_Takings => k_is)
    (case na_Takings_takings => k_is)
    (case fm_Takings_moves => k_is)
    (case ys_Takings_Rule => first | rfl | k_is)
    (case ys_Takings_Takings => first | rfl | k_is)
    (case ys_Takings_Turned => first | rfl | k_is)
    (case pg_Turned => k_is)
    (case hd_Turned => k_is)
    (case po_Turned => k_is)
    (case sa_Turned => k_is)
    (case mk_Turned => k_is)
    (case kc_Turned => k_is)
    (case oc_Turned => k_is)
    (case om_Turned => k_is)
    (case na_Turned_inner => k_is)
    (case fm_Turned_moves => k_is)
    (case ys_Turned_Rule => first | rfl | k_is)
    (case ys_Turned_Takings => first | rfl | k_is)
    (case ys_Turned_Turned => first | rfl | k_is)
    (case og => k_is)
    (case ot => k_is)
    (case xi_Rule => k_is)
    (case xt_Rule => k_is)
    (case sd_Rule => first | rfl | k_is)
    (case xi_Takings => k_is)
    (case xt_Takings => k_is)
    (case sd_Takings => first | rfl | k_is)
    (case xi_Turned => k_is)
    (case xt_Turned => k_is)
    (case sd_Turned => first | rfl | k_is)
    (case xk_DuelError => k_is)
    (case xb_DuelError => k_is)
    (case xt_DuelError => k_is)
    (case xi_DuelError => k_is)
    (case xg_DuelError => k_is)
    (case xq_DuelError => k_is)
    (case xd_DuelError => k_is)
    (case xa_DuelError => k_is)
    (case xm_DuelError => k_is)
    (case ys_DuelError_DuelError => first | rfl | k_is)
    (case ys_DuelError_NoRule => first | rfl | k_is)
    (case ys_DuelError_NoBoard => first | rfl | k_is)
    (case ys_DuelError_NoHand => first | rfl | k_is)
    (case kv_DuelError => k_is)
    (case xe_NoRule => k_exc)
    (case xk_NoRule => k_is)
    (case xb_NoRule => k_is)
    (case xt_NoRule => k_is)
    (case xi_NoRule => k_is)
    (case xg_NoRule => k_is)
    (case xq_NoRule => k_is)
    (case xd_NoRule => k_is)
    (case xa_NoRule => k_is)
    (case xm_NoRule => k_is)
    (case ys_NoRule_DuelError => first | rfl | k_is)
    (case ys_NoRule_NoRule => first | rfl | k_is)
    (case ys_NoRule_NoBoard => first | rfl | k_is)
    (case ys_NoRule_NoHand => first | rfl | k_is)
    (case kv_NoRule => k_is)
    (case xe_NoBoard => k_exc)
    (case xk_NoBoard => k_is)
    (case xb_NoBoard => k_is)
    (case xt_NoBoard => k_is)
    (case xi_NoBoard => k_is)
    (case xg_NoBoard => k_is)
    (case xq_NoBoard => k_is)
    (case xd_NoBoard => k_is)
    (case xa_NoBoard => k_is)
    (case xm_NoBoard => k_is)
    (case ys_NoBoard_DuelError => first | rfl | k_is)
    (case ys_NoBoard_NoRule => first | rfl | k_is)
    (case ys_NoBoard_NoBoard => first | rfl | k_is)
    (case ys_NoBoard_NoHand => first | rfl | k_is)
    (case kv_NoBoard => k_is)
    (case xe_NoHand => k_exc)
    (case xk_NoHand => k_is)
    (case xb_NoHand => k_is)
    (case xt_NoHand => k_is)
    (case xi_NoHand => k_is)
    (case xg_NoHand => k_is)
    (case xq_NoHand => k_is)
    (case xd_NoHand => k_is)
    (case xa_NoHand => k_is)
    (case xm_NoHand => k_is)
    (case ys_NoHand_DuelError => first | rfl | k_is)
    (case ys_NoHand_NoRule => first | rfl | k_is)
    (case ys_NoHand_NoBoard => first | rfl | k_is)
    (case ys_NoHand_NoHand => first | rfl | k_is)
    (case kv_NoHand => k_is)
    (case zz_all => k_is)
    (case zz_bool => k_is)
    (case zz_enumerate => k_is)
    (case zz_int => k_is)
    (case zz_isinstance => k_is)
    (case zz_len => k_is)
    (case zz_list => k_is)
    (case zz_range => k_is)
    (case zz_set => k_is)
    (case zz_sorted => k_is)
    (case zz_str => k_is)
    (case kn_MOST_FIGURES => k_is)
    (case kn_FIGURES => k_is)
    (case kn_HANDS => k_is)
    (case kl_HANDS => k_is)
