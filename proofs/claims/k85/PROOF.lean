import PyProof.Rows.All
import Wide.All
import OpenK.AllK
import Wide.FinOn
import KE.KExcIs
import HandS.ForMost
import HandS.Exc
import HandS.ExcOwn
import HandS.TryOnly
import HandS.WordsExc
import HandS.ExcInit
import HandS.ExcField
import HandS.OwnEq
import HandS.IsInst
import HandS.More
import HandS.Style
import HandS.Walk
import HandS.RaiseFrom
import HandS.ExcInitHot
import HandS.SuiteRaise
import HandS.Finally
import PyProof.InstEq
import PySem.Challenge.RW_weldmill_k85_several_as_one_by_one
set_option Elab.async false
set_option linter.all false
set_option maxRecDepth 100000
set_option maxHeartbeats 2000000
namespace WM
open PySem PySem.Spec PyProof.Rows L2
/-! ### 1. an own class's __init__ that is ValueError's, called through the class -/
structure CIni (K : PySem.W.Frag) (D : Addr) (mc : Value) : Prop where
  rd : PySem.W.readsIn K D mc = true
  ga : PySem.W.specialIn K (.ref D) "__getattribute__" = some (some (.builtin "type.__getattribute__"))
  at_ : PySem.W.findCls K (.ref D) mc "__init__" = some (.val (.builtin "ValueError.__init__"))
section
variable {X : Cx} {e : Expr} {es : List Expr} {ta : TA} {p1 p2 pos : Pos}
theorem pe_clsinit {D : Addr} {mc : Value} {x : Str} {pl : Sem Bool} (hg : Gl X x) (hm : X.mg x = some (.ref D)) (c : CIni X.K D mc) (ha : PA X (e :: es) ta) (hdb : (x == ("__debug__" : Str)) = false := by decide)
    (hc : eval (.Call (.Attribute (.Name x p1) "__init__" p2) (e :: es) [] pos) X.env = (do
      let ov ← eval (.Name x p1) X.env
      standAt p2.atName
      let (f, first) ← holding [ov] (getMethod ov "__init__" pl)
      callWith pos f first (backTo pos (starEach (e :: es) X.env)) (backToKw pos (keywordEach [] X.env))) := by rfl)
    (he : starEach (e :: es) X.env = (false, eval e X.env) :: starEach es X.env := by rfl) (hpl : (backTo pos (starEach es X.env)).any (·.1) = false := by rfl) :
    PE X (.Call (.Attribute (.Name x p1) "__init__" p2) (e :: es) [] pos) (tVeI X.K ta) := by
  refine ⟨fun pins s σ H Q I h => PySem.W.methodCall_KW (ld_glob I hg hm ?_ hdb) hc⟩
  refine PySem.W.method_cls I.kIn c.ga (PySem.W.cls_value I.kIn c.rd c.at_ rfl ?_)
  show wpAny _ _ (callWith pos (Value.builtin "ValueError.__init__") [] (backTo pos (starEach (e :: es) X.env)) []) _ _ _
  refine PyProof.Rows.callWith_method1 (thn (ha.run pos pins _ σ H _ (I.tok _) h) fun us s1 w => ?_) he hpl
  obtain ⟨vs, H1, I1, r1, a, C, ws, ev, hl, T, ea, q⟩ := w
  subst ev
  cases r1 with
  | cons ra rw' =>
    cases ra
    refine oinit_ok T I1 ea ?_ fun s' J => ⟨.non, H1, J, rfl, q⟩
    have n := Paired.length rw'
    rw [sizeLine_eq]
    omega
end
/-! ### 2. a caught exception as a value -/
/-- at a stands an exception of the class cls, its own dict at d -/
def exv (a : Addr) (cls : Value) (d : Option Addr) : HO := .ext fun h => ∃ (oe : Obj) (vs : Array Value), h.get? a = some oe ∧ Zc cls d oe ∧ oe.data = .fields vs
theorem exv_ok {P : Program} {w : World} {H : Hp} {h : Heap} {a : Addr} {cls : Value} {d : Option Addr} {oe : Obj} {vs : Array Value} (e : h.get? a = some oe) (z : Zc cls d oe) (hd : oe.data = .fields vs) : ObjOk P w H h a (exv a cls d) :=
  ⟨⟨oe, vs, e, z, hd⟩, ⟨oe, e⟩, fun _ _ ⟨o, v, q, r⟩ k => ⟨o, v, k o q, r⟩⟩
section
variable {X : Cx} {pins : List (Addr × Obj)} {σ : L2.St} {H : Hp} {s : Shared}
/-- an object that stands untracked, new since the entry, is tracked from here on -/
theorem track {a : Addr} {o : HO} (I : Inv X pins σ H s) (hn : H a = none) (h0 : X.s_0.heap.get? a = none) (hl : a ≠ X.env.locals) (hc : ∀ x c, X.env.cells.lookup x = some c → c ≠ a) (hp : ∀ p ∈ X.pn ++ pins, p.1 ≠ a)
    (new : ObjOk X.prog X.w (upd H a o) s.heap a o) : Inv X pins σ (upd H a o) s := by
  have far : ∀ b ob, X.s_0.heap.get? b = some ob → b ≠ a := fun b ob e z => by
    rw [z, h0] at e
    cases e
  refine ⟨I.ok, I.os, I.bare, ⟨I.base.keep, I.base.slot, fun b ob e n x => ?_, I.base.there, fun b xs e => ?_, fun b ob u e => ?_, fun b ps e => ?_⟩, I.loc, I.cell, ?_, fun x c e => ?_, fun p hq => ?_, ?_, I.len⟩
  · rw [upd_ne (far b ob e)]
    exact I.base.free b ob e n x
  · have q := I.base.tups b xs e
    rw [upd_ne (ne_of_none q hn)]
    exact q
  · have q := I.base.frzs b ob u e
    rw [upd_ne (ne_of_none q hn)]
    exact q
  · obtain ⟨m, q⟩ := I.base.tbls b ps e
    exact ⟨m, by rw [upd_ne (ne_of_none q hn)]; exact q⟩
  · rw [upd_ne (Ne.symm hl)]
    exact I.free
  · rw [upd_ne (hc x c e)]
    exact I.freeC x c e
  · obtain ⟨g1, g2, g3, g4, g5⟩ := I.pin p hq
    refine ⟨g1, ?_, g3, g4, g5⟩
    rw [upd_ne (hp p hq)]
    exact g2
  · intro b u e
    by_cases hb : b = a
    · rw [hb, upd_same] at e
      cases e
      rw [hb]
      exact new
    · rw [upd_ne hb] at e
      refine (I.hok b u e).stay (fun c v _ q => q) (fun c q => ?_) fun c xs q => ?_
      · rw [upd_ne (ne_of_none q hn)]
        exact q
      · rw [upd_ne (ne_of_none q hn)]
        exact q
end
/-- behind the suite the exception stays, tracked at a; the clause's own name is gone -/
def endV (a : Addr) (cls : Value) (d : Option Addr) (i : Nat) (D : Ends) : Ends := { nx := fun σ' H' => H' a = none → D.nx (σ'.set i none) (upd H' a (exv a cls d)), rt := fun _ _ => False }
/-- what «except x as n», n in slot i, wishes of an exception, if the exception is to stay as a value -/
def wAsV (K : PySem.W.Frag) (c : Value) (i : Nat) (ts : Addr → Value → Option Addr → TS) (Wout : WX) (D : Ends) : WX := fun cls d σ H =>
  ∃ b, PySem.W.exmOne K cls c = some b ∧ (b = true → ∀ a, H a = none → ts a cls d (endV a cls d i D) (σ.set i (some (.ref a))) H) ∧ (b = false → Wout cls d σ H)
section
variable {X : Cx} {x n : Str} {c : Value} {i : Nat} {body suite : List Stmt} {b₀ : Stmt} {np pos pos' : Pos} {tb : WX → TS} {ts : Addr → Value → Option Addr → TS} {Wout : WX}
theorem ps_try_asV (hs : X.stack = X.env :: X.outer) (hf : X.env.frame = some X.env.locals) (hex : X.ex = []) (hN : X.N.Nodup) (hi : X.N[i]? = some n) (hln : X.env.kindOf n = some .local) (hc : Names X x c) (tk : Takes X Wout)
    (hb : ∀ (W : WX) (pn : List (Addr × Obj)) (xe : Value → Shared → Prop), Takes (X.tr pn xe) W → PassesOwn (model X.prog X.w) X.A X.env xe → PSs (X.tr pn xe) body (tb W))
    (hsu : ∀ (a : Addr) (oe : Obj) (cls : Value) (d : Option Addr) (pn : List (Addr × Obj)), Zc cls d oe → (∃ vs, oe.data = .fields vs) → PSs (X.suite a ((a, oe) :: pn)) (b₀ :: suite) (ts a cls d)) :
    PS X (.Try body [.ExceptHandler (some (.Name x np)) (some n) (b₀ :: suite) pos'] [] [] pos) (fun D σ H => tb (wAsV X.K c i ts Wout D) D σ H) := by
  refine ⟨fun pins s σ H D I h => wpAny_Try_except ?_⟩
  have ok := I.ok
  have hfr : X.A.frames = some (X.env :: X.outer) := ok.frames.trans (congrArg some hs)
  refine wpAny_mono ((hb (wAsV X.K c i ts Wout D) (X.pn ++ pins) (fun e s₁ => wpAny (model X.prog X.w) X.A (noteFrame e X.env) (fun _ s₂ => wpAny (model X.prog X.w) X.A (setFlight e none) (fun _ s₃ =>
    wpAny (model X.prog X.w) X.A (handleBy e X.env [.ExceptHandler (some (.Name x np)) (some n) (b₀ :: suite) pos']) (SP X pins D) X.xe s₃) X.xe s₂) X.xe s₁) (fun u s' w => ?_) PassesOwn.looking).run [] s σ H D (I.toTry _) h) (fun f s1 w => ?_) (fun _ _ z => z)
  · obtain ⟨a, B, sI, pins', σ', H', cls, d, rfl, J', nb, up, sky, na, os, ag, b, hb1, hyes, hno⟩ := w
    have J : Inv X pins σ' H' sI := J'.ofTry ok
    refine Sky.land Zc.steady hfr hf (show Sky B (X.env :: X.outer) a (Zc cls d) X.env.locals s'.heap from hs ▸ sky) fun h3 fl3 up3 => ?_
    have J3 : Inv X pins σ' H' { s' with heap := h3 } := J.landed nb fl3.1 (up.trans up3) os ag
    obtain ⟨oe3, vs3, he3, hz3, hd3⟩ := fl3.there
    -- a is no frame
    have nfr : a ∉ frs (X.env :: X.outer) := fun hm => by
      obtain ⟨_, o', e', hnf⟩ := fl3.2.2.1.mem hm
      have eo : oe3 = o' := Option.some.inj (he3.symm.trans e')
      exact hnf _ (eo ▸ hd3)
    have nL : a ≠ X.env.locals := fun z => nfr (List.mem_filterMap.mpr ⟨X.env, List.mem_cons_self, hf.trans (congrArg some z.symm)⟩)
    have nF : a ∉ X.fs := fun hm => by
      obtain ⟨e, he, q⟩ := List.mem_filterMap.mp hm
      exact nfr (List.mem_filterMap.mpr ⟨e, List.mem_cons_of_mem _ he, q⟩)
    -- a is new
    have nI : sI.heap.get? a = none := by
      cases q : sI.heap.get? a with
      | none => rfl
      | some o =>
        have z := nb a o q (hs ▸ nfr)
        rw [fl3.2.1] at z
        cases z
    have n0 : X.s_0.heap.get? a = none := by
      cases q : X.s_0.heap.get? a with
      | none => rfl
      | some o =>
        obtain ⟨o', z⟩ := J.base.there a o q (by rw [hex]; simp)
        rw [nI] at z
        cases z
    have nP : ∀ p ∈ X.pn ++ pins, p.1 ≠ a := fun p hp z => by
      have q := (J.pin p hp).1
      rw [z, nI] at q
      cases q
    have S3 := J3.suite he3 hd3 na nL nF
    refine wpAny_handleBy_cons (codeAny_handlers_test ?_) (fun q => nomatch q)
    have LT : PySem.W.Looks (model X.prog X.w) h3 (typeOf (.ref a)) cls := fun A Q E s k q => wpAny_typeOf_ref (k _ _ he3) (hz3.1.symm ▸ q)
    have LM := PySem.W.exm_one (M := model X.prog X.w) J3.kIn LT hb1
    have test : ∀ {Q : Value → Shared → Prop} {E : Value → Shared → Prop}, Q c { s' with heap := h3 } → wpAny (model X.prog X.w) (X.A.mark (some (.ref a))) (eval (.Name x np) X.env) Q E { s' with heap := h3 } := fun {Q E} q => by
      obtain ⟨hg, hdbg, hm | ⟨hm, hv, hnn⟩⟩ := hc
      · exact ld_glob (X := X.suite a ((a, oe3) :: (X.pn ++ pins))) S3 hg hm q hdbg
      · exact ld_blt (X := X.suite a ((a, oe3) :: (X.pn ++ pins))) S3 hg hm hv q hnn hdbg
    refine test (LM.here ?_)
    cases b with
    | true =>
      refine codeAny_handlers_suite_as (HandSPX.lands_againZ fl3 fun h4 fl4 up4 => ?_)
      have J4 : Inv X pins σ' H' { s' with heap := h4 } := J.landed nb fl4.1 ((up.trans up3).trans up4) os ag
      obtain ⟨oe4, vs4, he4, hz4, hd4⟩ := fl4.there
      have S4 := J4.suite he4 hd4 na nL nF
      refine store_ok (X := X.suite a ((a, oe4) :: (X.pn ++ pins))) (v := .ref a) S4 hN hi (.inl hln) rfl (fun s5 S5 => ?_) (.inr hln)
      refine wpAny_mono ((hsu a oe4 cls d (X.pn ++ pins) hz4 ⟨_, hd4⟩).run [] s5 _ H' _ S5 (hyes rfl a na)) (fun f s6 w => ?_) (fun _ _ z => z.elim)
      cases f with
      | next =>
        obtain ⟨σ6, H6, S6, q6⟩ := w
        obtain ⟨ga, gn, _⟩ := S6.pin (a, oe4) (List.mem_append_left _ List.mem_cons_self)
        have J6 : Inv X pins σ6 H6 s6 := S6.unsuite ok
        have nC : ∀ x c, X.env.cells.lookup x = some c → c ≠ a := fun x c e z => by
          obtain ⟨v, o, g1, g2⟩ := J6.cell x c e
          have eo : o = oe4 := Option.some.inj (g1.symm.trans (z ▸ ga))
          rw [eo, hd4] at g2
          cases g2
        have J7 := track J6 gn n0 nL nC nP (exv_ok (cls := cls) (d := d) ga hz4 hd4)
        exact gone_ok J7 hN hi hln fun s7 J8 => ⟨_, _, J8, q6 gn⟩
      | brk =>
        obtain ⟨_, _, _, q6⟩ := w
        exact q6.elim
      | cont =>
        obtain ⟨_, _, _, q6⟩ := w
        exact q6.elim
      | ret u =>
        obtain ⟨_, _, _, _, _, q6⟩ := w
        exact q6.elim
    | false =>
      refine wpAny_handleBy_nil ?_
      obtain ⟨k1, k2, k3, oe, vs, T, oT, tt, he, hz, hd, h1, hr⟩ := id fl3
      unfold PySem.passOn
      refine wpAny_bind (wpAny_field he hd h1 ?_)
      rw [if_neg (show ¬ ((Value.ref T == Value.none) = true) by simp)]
      have fin : wpAny (model X.prog X.w) X.A (setFlight (.ref a) X.env.frame) (fun _ s4 => wpAny (model X.prog X.w) X.A (throw (.ref a) : Sem Flow) (SP X pins D) X.xe s4) X.xe { s' with heap := h3 } := by
        rw [hf]
        exact HandSPX.setFlight_upZ fl3 fun h4 hh4 up4 => wpAny_throw (tk _ _ ⟨a, B, sI, pins, σ', H', cls, d, rfl, J, nb, (up.trans up3).trans up4, .inr (.inr (by rw [hs]; exact hh4)), na, os, ag, hno rfl⟩)
      first
        | exact wpAny_bind (wpAny_pure (wpAny_bind fin))
        | exact wpAny_bind fin
  · cases f with
    | next =>
      obtain ⟨σ', H', J', q⟩ := w
      exact wpAny_execs_nil ⟨σ', H', J'.ofTry ok, q⟩
    | brk =>
      obtain ⟨σ', H', J', q⟩ := w
      exact ⟨σ', H', J'.ofTry ok, q⟩
    | cont =>
      obtain ⟨σ', H', J', q⟩ := w
      exact ⟨σ', H', J'.ofTry ok, q⟩
    | ret u =>
      obtain ⟨v, σ', H', J', r, q⟩ := w
      exact ⟨v, σ', H', J'.ofTry ok, r, q⟩
end
/-- what the class D must say, so that its instances are asked and read rightly -/
structure ExcK (K : PySem.W.Frag) (D : Addr) : Prop where
  cl : (PySem.W.clsIn K D).isSome = true
  hg : PySem.W.findIn K (.ref D) "__getattribute__" = some (some (.builtin "BaseException.__getattribute__"))
  hk : PySem.W.findIn K (.ref D) "__getattr__" = some none
  hs : PySem.W.subIn K (.ref D) (.type "BaseException") = some true
  hd : PySem.W.hasDictIn K D = true
  ha : PySem.W.findIn K (.ref D) "__class__" = some (some (.builtin "object.__class__"))
  hn : PySem.W.specialIn K (.builtin "object.__class__") "__get__" = some (some (.builtin "getset_descriptor.__get__"))
  ht : PySem.W.takesIn K (.builtin "object.__class__") = some true
  hm : PySem.W.mroIn K D (.type "object") = some true
/-- the exception at a with its own dict at dd -/
def ExAt (H : Hp) (a D dd : Addr) (fs : List (Str × V)) : Prop := H a = some (exv a (.ref D) (some dd)) ∧ H dd = some (.xd fs)
section
variable {X : Cx} {pins : List (Addr × Obj)} {σ : L2.St} {H : Hp} {s : Shared}
theorem exAt_inst {a D dd : Addr} {fs : List (Str × V)} (I : Inv X pins σ H s) (h : ExAt H a D dd fs) : ∃ (ox od : Obj) (mA : Str → Option Value), PySem.W.InstAt s.heap a ox D (some od) ∧ (∀ name, PySem.W.lookIn name od = some (mA name)) ∧ ∀ f, RelO (fs.lookup f) (mA f) := by
  obtain ⟨ha, hd⟩ := h
  obtain ⟨⟨oe, vs, ho, hz, hv⟩, _, _⟩ := (show ObjOk X.prog X.w H s.heap a (exv a (.ref D) (some dd)) from I.hok a _ ha)
  obtain ⟨mA, hns, hr⟩ := (show ObjOk X.prog X.w H s.heap dd (.xd fs) from I.hok dd _ hd)
  obtain ⟨od, hod, hl⟩ := lookIn_ns hns
  exact ⟨oe, od, mA, ⟨ho, hz.1, by unfold PySem.W.notCls; rw [hv] <;> rfl, by rw [hz.2]; exact hod⟩, hl, hr⟩
/-- isinstance(e, c) of such an exception -/
def rIsV (K : PySem.W.Frag) : List V → Hp → VK → Prop := fun xs H Q => ∃ (a D dd : Addr) (fs : List (Str × V)) (c : V) (cv : Value) (b : Bool), xs = [.ref a, c] ∧ ExAt H a D dd fs ∧ ExcK K D ∧ ClsV c cv ∧ PySem.W.kitOne K (.ref D) cv = some b ∧ Q (.bl b) H
theorem call_isV : CallR X (.builtin "isinstance") (rIsV X.K) := by
  intro pins s σ H xs us Q I r h
  obtain ⟨a, D, dd, fs, c, cv, b, rfl, hA, T, hc, e, q⟩ := h
  obtain ⟨u1, u2, rfl, r1, r2⟩ := vals2 r
  cases r1
  have ec := hc.eq r2
  subst ec
  obtain ⟨ox, od, mA, J, _, _⟩ := exAt_inst I hA
  exact PySem.W.kia_one (PySem.W.kitx_exc T.cl T.hg T.hk T.hs T.ha T.hn T.ht T.hm) I.kIn J e (fun z => nomatch z) fun tk => ⟨.bl b, H, I.tok tk, rfl, q⟩
/-- e.f of such an exception -/
def tXv (K : PySem.W.Frag) (f : Str) (te : TE) : TE := fun σ H Q => te σ H fun x H1 => ∃ (a D dd : Addr) (fs : List (Str × V)) (v : V), x = .ref a ∧ ExAt H1 a D dd fs ∧ ExcK K D ∧ PySem.W.findIn K (.ref D) f = some none ∧ fs.lookup f = some v ∧ Q v H1
theorem pe_xv {e : Expr} {te : TE} {pos : Pos} {f : Str} (he : PE X e te) (hb : attributeBase e f X.env (eval e X.env) = eval e X.env := by rfl) : PE X (.Attribute e f pos) (tXv X.K f te) := by
  refine ⟨fun pins s σ H Q I h => attr_of hb (thn (he.run pins s σ H _ I h) fun u s1 w => ?_)⟩
  obtain ⟨x, H1, I1, rx, a, D, dd, fs, v, ex, hA, T, hno, l, q⟩ := w
  subst ex
  cases rx
  obtain ⟨ox, od, mA, J, hl, hr⟩ := exAt_inst I1 hA
  obtain ⟨u, hu, ru⟩ := RelO.some_of (v := v) (o := mA f) (l ▸ hr f)
  exact HandSPX.exc_get I1.kIn J T.hg T.hk T.hs (PySem.W.findObj_own T.hd hno rfl ((hl f).trans (congrArg some hu))) (handed_of ru) ⟨v, H1, I1.tok _, ru, q⟩
end
/-! ### 3. list.count of flat things -/
section
variable {X : Cx}
theorem count_eqU {x : V} : ∀ {xs : List V} {us : List Value}, Vals xs us → xs.all flatV = true → us.countP (eqU x) = xs.countP fun y => eqV y x
  | _, _, .nil, _ => rfl
  | _, _, .cons r t, h => by
    have h' := Bool.and_eq_true_iff.mp (List.all_cons ▸ h)
    rw [List.countP_cons, List.countP_cons, count_eqU t h'.2, eqU_of r h'.1]
def rCntF (K : PySem.W.Frag) : V → List V → Hp → VK → Prop := fun x xs H Q => ∃ (p : Addr) (ys : List V) (y : V), x = .ref p ∧ xs = [y] ∧ SqL K H p ys ∧ flatV y = true ∧ ys.all flatV = true ∧ Q (.int (ys.countP fun z => eqV z y : Nat)) H
theorem mt_countF : MtR X "list.count" (rCntF X.K) := by
  intro pins s σ H x xs v us Q I rx rxs h
  obtain ⟨p, ys, y, rfl, rfl, hs, fy, fys, q⟩ := h
  cases rx
  obtain ⟨u, rfl, ru⟩ := rxs.one
  obtain ⟨its, rv, ⟨⟨cls, dd, data, sl⟩, n, ho, hc, hdn, hd⟩, hlen⟩ := I.list hs
  simp only at hc hd
  subst hc hd
  refine call_meets PySem.F.slot_list_count ⟨_, ho, rfl⟩ PySem.F.entry_list_count (PySem.F.args_list_count_2 _ _)
    (SeqAt.list_countAt p its.toArray n dd sl u (eqU y)) ⟨ho, fun z hz => mem_eqAt ru fy rv fys z (by simpa using hz), ?_⟩
  exact ⟨.int (ys.countP fun z => eqV z y : Nat), H, I.tok _, ⟨s.toks, by rw [← count_eqU rv fys] <;> rfl⟩, q⟩
end
/-! ### 4. len(o), o == p, o != p of own instances, by their own defs -/
section
variable {X : Cx} {CX : CXT} {C f : Addr} {k : Nat} {fd : FuncData} {ps : List Str} {sp : Sp} {E : XK}
def rLenI (C : Addr) (sp : Sp) (E : XK) : List V → Hp → VK → Prop := fun xs H Q => ∃ (a dx : Addr) (fs : List (Str × V)), xs = [.ref a] ∧ H a = some (.ins C dx fs) ∧ sp [.ref a] H (fun v H' => ∃ n : Int, v = .int n ∧ 0 ≤ n ∧ n < 2 ^ 63 ∧ Q (.int n) H') E
theorem call_lenI (F : FnOk X.prog X.w X.K X.mg X.base CX k f fd ps sp) (hs : PySem.W.findIn X.K (.ref C) "__len__" = some (some (.ref f))) (hf : PySem.W.isFn X.K (.ref f) = true) (hr : Room (k + 1) X.A) (hb : Binds X.K fd ps []) (hx : Passes CX X E) :
    CallR X (.builtin "len") (rLenI C sp E) := by
  intro pins s σ H xs us Q I r h
  obtain ⟨a, dx, fs, rfl, ha, hsp⟩ := h
  obtain ⟨u, rfl, ru⟩ := vals1 r
  cases ru
  obtain ⟨mA, J, _⟩ := ins_get I.hok ha
  obtain ⟨od, J, _⟩ := J.look
  obtain ⟨m, hF⟩ := I.fr
  refine PySem.W.len_K hF I.ok.mod.kin J hs hf ?_
  have hl := F.len _ _ _ _ hsp
  have r2 : Vals [V.ref a] [Value.ref a] := .cons rfl .nil
  have b2 := hb s [.ref a] I.kIn (by simpa using hl)
  rw [List.append_nil] at b2
  refine wpAny_call (codeAny_mono (F.run X.A.in1 X.stack s H ⟨[.ref a], []⟩ [.ref a] [.ref a] _ E hr.in1 I.env0.in1 b2 r2 hsp) fun r s' hq => ?_)
  cases r with
  | error e => exact hx pins σ H s e s' I hq
  | ok fl =>
    cases fl with
    | ret w =>
      obtain ⟨z, H', I', rz, n, ez, h0, h1, q⟩ := I.after hq
      subst ez
      obtain ⟨t, rfl⟩ := rz
      exact ⟨⟨h0, h1⟩, ⟨.int n, H', I'.tok _, ⟨_, rfl⟩, q⟩⟩
    | next => exact False.elim hq
    | brk => exact False.elim hq
    | cont => exact False.elim hq
def rEqI (C : Addr) (sp : Sp) (E : XK) : R2 := fun x y H Q => ∃ (a b dx dy : Addr) (fs gs : List (Str × V)), x = .ref a ∧ y = .ref b ∧ H a = some (.ins C dx fs) ∧ H b = some (.ins C dy gs) ∧ sp [.ref a, .ref b] H (fun v H' => ∃ t, v = .bl t ∧ Q (.bl t) H') E
theorem op_eqI (F : FnOk X.prog X.w X.K X.mg X.base CX k f fd ps sp) (hs : PySem.W.findIn X.K (.ref C) "__eq__" = some (some (.ref f))) (hf : PySem.W.isFn X.K (.ref f) = true) (hr : Room k X.A) (hb : Binds X.K fd ps []) (hx : Passes CX X E) :
    OpR X (compareOp .Eq) (rEqI C sp E) := by
  intro pins s σ H x y v u Q I rx ry h
  obtain ⟨a, b, dx, dy, fs, gs, rfl, rfl, ha, hb', hsp⟩ := h
  cases rx
  cases ry
  obtain ⟨mA, J, _⟩ := ins_get I.hok ha
  obtain ⟨mB, J', _⟩ := ins_get I.hok hb'
  obtain ⟨od, J, _⟩ := J.look
  obtain ⟨od', J', _⟩ := J'.look
  obtain ⟨m, hF⟩ := I.fr
  show wpAny (model X.prog X.w) X.A (richCompare .Eq (.ref a) (.ref b)) _ _ _
  refine PySem.W.cmp_K (op := .Eq) (tb := .ref C) hr.units0 hF I.ok.mod.kin J J'.type (by simp [PySem.W.notFirst]) hs hf ?_
  have hl := F.len _ _ _ _ hsp
  have r2 : Vals [V.ref a, V.ref b] [Value.ref a, Value.ref b] := .cons rfl (.cons rfl .nil)
  have b2 := hb s [.ref a, .ref b] I.kIn (by simpa using hl)
  rw [List.append_nil] at b2
  refine wpAny_call (codeAny_mono (F.run X.A X.stack s H ⟨[.ref a, .ref b], []⟩ [.ref a, .ref b] [.ref a, .ref b] _ E hr I.env0 b2 r2 hsp) fun r s' hq => ?_)
  cases r with
  | error e => exact hx pins σ H s e s' I hq
  | ok fl =>
    cases fl with
    | ret w =>
      obtain ⟨z, H', I', rz, t, ez, q⟩ := I.after hq
      subst ez
      cases rz
      exact ⟨.bl t, H', I', rfl, q⟩
    | next => exact False.elim hq
    | brk => exact False.elim hq
    | cont => exact False.elim hq
end
end WM
set_option Elab.async false
set_option linter.all false
set_option maxRecDepth 100000
set_option maxHeartbeats 2000000
namespace WM
open PySem PySem.Spec PyProof.Rows L2
/-! ### 1. how the heap goes on: all but fp is kept -/
structure Kp (fp : List Addr) (H H' : Hp) : Prop where
  keep : ∀ b o, H b = some o → b ∉ fp → H' b = some o
  tups : ∀ b xs, H b = some (.tup xs) → H' b = some (.tup xs)
  free : ∀ b, H' b = none → H b = none
section
variable {fp fq : List Addr} {H H1 H2 : Hp} {a b p : Addr} {o u : HO}
theorem Kp.refl (fp : List Addr) (H : Hp) : Kp fp H H := ⟨fun _ _ h _ => h, fun _ _ h => h, fun _ h => h⟩
theorem Kp.mono (k : Kp fp H H1) (h : ∀ b ∈ fp, b ∈ fq) : Kp fq H H1 := ⟨fun b o e n => k.keep b o e fun z => n (h b z), k.tups, k.free⟩
theorem Kp.nil (k : Kp [] H H1) : Kp fp H H1 := k.mono fun _ z => nomatch z
theorem Kp.trans (k : Kp fp H H1) (l : Kp fp H1 H2) : Kp fp H H2 :=
  ⟨fun b o e n => l.keep b o (k.keep b o e n) n, fun b xs e => l.tups b xs (k.tups b xs e), fun b e => k.free b (l.free b e)⟩
theorem Kp.step (l : Kp fq H1 H2) (k : Kp fp H H1) (h : ∀ b ∈ fq, b ∈ fp) : Kp fp H H2 := k.trans (l.mono h)
/-- what was not there at H may change | comes new -/
theorem Kp.updFree (k : Kp fp H H1) (h : H a = none) : Kp fp H (upd H1 a o) :=
  ⟨fun b u e n => (upd_ne (ne_of_none e h)).trans (k.keep b u e n), fun b xs e => (upd_ne (ne_of_none e h)).trans (k.tups b xs e), fun b e => k.free b (by
    by_cases z : b = a
    · rw [z, upd_same] at e; cases e
    · rw [upd_ne z] at e; exact e)⟩
theorem Kp.updNew (k : Kp fp H H1) (h : H1 a = none) : Kp fp H (upd H1 a o) := k.updFree (k.free a h)
/-- no tuple -/
def NoT (o : Option HO) : Prop := ∀ xs, o ≠ some (.tup xs)
theorem NoT.lst {xs : List V} (h : H a = some (.lst xs)) : NoT (H a) := fun ys e => by rw [h] at e; cases e
theorem NoT.ins {C dx : Addr} {fs : List (Str × V)} (h : H a = some (.ins C dx fs)) : NoT (H a) := fun ys e => by rw [h] at e; cases e
theorem Kp.updIn (k : Kp fp H H1) (h : a ∈ fp) (n : NoT (H a)) : Kp fp H (upd H1 a o) :=
  ⟨fun b u e m => (upd_ne (fun z : b = a => m (by rw [z]; exact h))).trans (k.keep b u e m), fun b xs e => (upd_ne (fun z : b = a => n xs (by rw [← z]; exact e))).trans (k.tups b xs e), fun b e => k.free b (by
    by_cases z : b = a
    · rw [z, upd_same] at e; cases e
    · rw [upd_ne z] at e; exact e)⟩
theorem Kp.get (k : Kp fp H H1) (h : H b = some o) (n : b ∉ fp) : H1 b = some o := k.keep b o h n
theorem Kp.tup {xs : List V} (k : Kp fp H H1) (h : H b = some (.tup xs)) : H1 b = some (.tup xs) := k.tups b xs h
theorem Kp.sqL {K : PySem.W.Frag} {xs : List V} (k : Kp fp H H1) (h : SqL K H b xs) (n : b ∉ fp) : SqL K H1 b xs := by
  rcases h with (h | ⟨o, h⟩) | h
  · exact .inl (.inl (k.keep _ _ h n))
  · exact .inl (.inr ⟨o, k.keep _ _ h n⟩)
  · exact .inr h
theorem upd_getN (h : H p = none) (e : H a = some u) : upd H p o a = some u := (upd_ne (ne_of_none e h)).trans e
theorem upd_getD (h : a ≠ p) (e : H a = some u) : upd H p o a = some u := (upd_ne h).trans e
theorem ne_kind {o u : HO} (h : H a = some o) (h' : H b = some u) (d : o ≠ u) : a ≠ b := ne_of h h' d
theorem ne_fresh (h' : H b = none) (h : H a = some o) : a ≠ b := ne_of_none h h'
theorem ne_new (h : H a = some o) (h' : H b = none) : a ≠ b := ne_of_none h h'
theorem ni1 (h : a ≠ b) : a ∉ [b] := fun z => h (List.mem_singleton.mp z)
theorem ni2 {c : Addr} (h : a ≠ b) (h2 : a ≠ c) : a ∉ [b, c] := fun z => by
  rcases List.mem_cons.mp z with z | z
  · exact h z
  · exact h2 (List.mem_singleton.mp z)
theorem ni3 {c d : Addr} (h : a ≠ b) (h2 : a ≠ c) (h3 : a ≠ d) : a ∉ [b, c, d] := fun z => by
  rcases List.mem_cons.mp z with z | z
  · exact h z
  · rcases List.mem_cons.mp z with z | z
    · exact h2 z
    · exact h3 (List.mem_singleton.mp z)
end
/-! ### 2. data of tuples alone -/
mutual
inductive Tp (H : Hp) : V → PyData → Prop
  | non : Tp H .non .none
  | bl (b : Bool) : Tp H (.bl b) (.bool b)
  | int (i : Int) : Tp H (.int i) (.int i)
  | str (x : Str) : Tp H (.str x) (.str x)
  | tup {a : Addr} {xs : List V} {ds : List PyData} : H a = some (.tup xs) → TpAll H xs ds → Tp H (.ref a) (.tuple ds)
inductive TpAll (H : Hp) : List V → List PyData → Prop
  | nil : TpAll H [] []
  | cons {v : V} {vs : List V} {d : PyData} {ds : List PyData} : Tp H v d → TpAll H vs ds → TpAll H (v :: vs) (d :: ds)
end
mutual
theorem Tp.dp {K : PySem.W.Frag} {H : Hp} : ∀ {d : PyData} {v : V}, Tp H v d → Dp K H v d
  | .none, _, h => by cases h; exact .non
  | .bool _, _, h => by cases h; exact .bl _
  | .int _, _, h => by cases h; exact .int _
  | .str _, _, h => by cases h; exact .str _
  | .tuple _, _, h => by
    cases h with
    | tup e t => exact .tup (SqT.of e) t.dp
  | .list _, _, h => by cases h
  | .dict _, _, h => by cases h
theorem TpAll.dp {K : PySem.W.Frag} {H : Hp} : ∀ {ds : List PyData} {vs : List V}, TpAll H vs ds → DpAll K H vs ds
  | [], _, h => by cases h; exact .nil
  | _ :: _, _, h => by
    cases h with
    | cons a b => exact .cons a.dp b.dp
end
mutual
theorem Tp.kp {fp : List Addr} {H H' : Hp} (k : Kp fp H H') : ∀ {d : PyData} {v : V}, Tp H v d → Tp H' v d
  | .none, _, h => by cases h; exact .non
  | .bool _, _, h => by cases h; exact .bl _
  | .int _, _, h => by cases h; exact .int _
  | .str _, _, h => by cases h; exact .str _
  | .tuple _, _, h => by
    cases h with
    | tup e t => exact .tup (k.tups _ _ e) (TpAll.kp k t)
  | .list _, _, h => by cases h
  | .dict _, _, h => by cases h
theorem TpAll.kp {fp : List Addr} {H H' : Hp} (k : Kp fp H H') : ∀ {ds : List PyData} {vs : List V}, TpAll H vs ds → TpAll H' vs ds
  | [], _, h => by cases h; exact .nil
  | _ :: _, _, h => by
    cases h with
    | cons a b => exact .cons (Tp.kp k a) (TpAll.kp k b)
end
/-- small enough to be compared -/
structure Shp (n : Nat) (d : PyData) : Prop where
  lay : d.canLay0 = true
  dep : d.depth ≤ n
theorem Shp.ok {n : Nat} {d : PyData} (h : Shp n d) (hn : n ≤ 64) : SeqAt.shaped d = true := Bool.and_eq_true_iff.mpr ⟨h.lay, decide_eq_true (Nat.le_trans h.dep hn)⟩
theorem Shp.mono {n m : Nat} {d : PyData} (h : Shp n d) (hn : n ≤ m) : Shp m d := ⟨h.lay, Nat.le_trans h.dep hn⟩
theorem shp_all {n : Nat} : ∀ {ds : List PyData}, (∀ d ∈ ds, Shp n d) → PyData.canLayAll0 ds = true ∧ PyData.depthAll ds ≤ n
  | [], _ => ⟨rfl, Nat.zero_le _⟩
  | d :: ds, h => by
    have h1 := h d List.mem_cons_self
    have h2 := shp_all (n := n) (ds := ds) fun x hx => h x (List.mem_cons_of_mem _ hx)
    refine ⟨?_, ?_⟩
    · simp only [PyData.canLayAll0, h1.lay, h2.1, Bool.and_self]
    · simp only [PyData.depthAll]
      exact Nat.max_le.mpr ⟨h1.dep, h2.2⟩
theorem Shp.list {n : Nat} {ds : List PyData} (h : ∀ d ∈ ds, Shp n d) : Shp (n + 1) (.list ds) := by
  obtain ⟨h1, h2⟩ := shp_all h
  exact ⟨by simpa only [PyData.canLay0] using h1, by simp only [PyData.depth]; omega⟩
theorem Shp.tuple {n : Nat} {ds : List PyData} (h : ∀ d ∈ ds, Shp n d) : Shp (n + 1) (.tuple ds) := by
  obtain ⟨h1, h2⟩ := shp_all h
  exact ⟨by simpa only [PyData.canLay0] using h1, by simp only [PyData.depth]; omega⟩
theorem Shp.int {n : Nat} (i : Int) : Shp n (.int i) := ⟨by simp only [PyData.canLay0], by simp only [PyData.depth]; omega⟩
theorem Shp.none {n : Nat} : Shp n .none := ⟨by simp only [PyData.canLay0], by simp only [PyData.depth]; omega⟩
theorem Shp.bool {n : Nat} (b : Bool) : Shp n (.bool b) := ⟨by simp only [PyData.canLay0], by simp only [PyData.depth]; omega⟩
theorem Shp.str {n : Nat} {x : Str} (h : PyData.strOk x = true) : Shp n (.str x) := ⟨by simpa only [PyData.canLay0] using h, by simp only [PyData.depth]; omega⟩
end WM
set_option Elab.async false
set_option linter.all false
set_option maxRecDepth 100000
set_option maxHeartbeats 2000000
namespace WM
open PySem PySem.Spec PyProof.Rows L2
/-! ### 1. defs by name: as they stand behind the top; what they promise -/
structure DefAt (K : PySem.W.Frag) (mg : Str → Option Value) (x : Str) (st : Stmt) (ps : List Str) : Prop where
  ex : ∃ (f : Addr) (fd : FuncData), Fun K x x st f fd ∧ mg x = some (.ref f) ∧ Binds K fd ps []
structure MetAt (K : PySem.W.Frag) (C : Addr) (m qual : Str) (st : Stmt) (ps : List Str) : Prop where
  ex : ∃ (f : Addr) (fd : FuncData), Fun K m qual st f fd ∧ PySem.W.findIn K (.ref C) m = some (some (.ref f)) ∧ PySem.W.isFn K (.ref f) = true ∧ Binds K fd ps []
structure Def (P : Program) (w : World) (K : PySem.W.Frag) (mg : Str → Option Value) (base : Heap) (CX : CXT) (x : Str) (k : Nat) (sp : Sp) : Prop where
  ex : ∃ (f : Addr) (fd : FuncData) (ps : List Str), FnOk P w K mg base CX k f fd ps sp ∧ mg x = some (.ref f) ∧ PySem.W.keepIn K (.ref f) = true ∧ Binds K fd ps []
structure Met (P : Program) (w : World) (K : PySem.W.Frag) (mg : Str → Option Value) (base : Heap) (CX : CXT) (C : Addr) (m : Str) (k : Nat) (sp : Sp) : Prop where
  ex : ∃ (f : Addr) (fd : FuncData) (ps : List Str), FnOk P w K mg base CX k f fd ps sp ∧ PySem.W.findIn K (.ref C) m = some (some (.ref f)) ∧ PySem.W.isFn K (.ref f) = true ∧ PySem.W.keepIn K (.ref f) = true ∧ Binds K fd ps []
/-- a statement's reading with its ends told one by one: behind it, its return, break, continue -/
def Run (t : TS) (N : L2.St → Hp → Prop) (R : VK) (B C : L2.St → Hp → Prop) (σ : L2.St) (H : Hp) : Prop := t { nx := N, rt := R, bk := B, ct := C } σ H
/-- a def's body is run from its arguments -/
def Body (t : TS) (N : List Str) (vs : List V) (H : Hp) (Q : VK) : Prop := Run t (fun _ H' => Q .non H') Q (fun _ _ => False) (fun _ _ => False) (start N vs) H
section
variable {P : Program} {w : World} {K : PySem.W.Frag} {mg : Str → Option Value} {base : Heap} {C : Addr} {x m qual : Str} {st : Stmt} {ps N : List Str} {k : Nat} {sp : Sp}
theorem DefAt.ok (D : DefAt K mg x st ps) (S : FnScope N ps (defScope st)) (len : ∀ vs H Q E, sp vs H Q E → vs.length = ps.length)
    (hb : ∀ (f : Addr) (cdv : Value) (A : Around) (outer : List Env) (s : Shared) (H : Hp) (vs : List V) (Q : VK) (E : XK), Room k (A.deeper (envOfC x (defScope st) s.heap.objs.size f cdv)) → sp vs H Q E →
      ∃ t, PSs (cxOf CX0 P w K mg base N x (defScope st) f cdv A outer s H E).nox (defBody st) t ∧ Body t N vs H Q) : Def P w K mg base CX0 x (k + 1) sp := by
  obtain ⟨f, fd, F, hm, b⟩ := D.ex
  exact ⟨f, fd, ps, F.ok S len fun cdv A outer s H vs Q E hr h => hb f cdv A outer s H vs Q E hr h, hm, F.kp, b⟩
theorem DefAt.okX (D : DefAt K mg x st ps) (S : FnScope N ps (defScope st)) (len : ∀ vs H Q E, sp vs H Q E → vs.length = ps.length)
    (hb : ∀ (f : Addr) (cdv : Value) (A : Around) (outer : List Env) (s : Shared) (H : Hp) (vs : List V) (Q : VK) (E : XK), Room k (A.deeper (envOfC x (defScope st) s.heap.objs.size f cdv)) → sp vs H Q E →
      ∃ t, PSs (cxOf (L2.CX P w) P w K mg base N x (defScope st) f cdv A outer s H E) (defBody st) t ∧ Body t N vs H Q) : Def P w K mg base (L2.CX P w) x (k + 1) sp := by
  obtain ⟨f, fd, F, hm, b⟩ := D.ex
  exact ⟨f, fd, ps, F.okX S len fun cdv A outer s H vs Q E hr h => hb f cdv A outer s H vs Q E hr h, hm, F.kp, b⟩
theorem MetAt.ok (D : MetAt K C m qual st ps) (S : FnScope N ps (defScope st)) (len : ∀ vs H Q E, sp vs H Q E → vs.length = ps.length)
    (hb : ∀ (f : Addr) (cdv : Value) (A : Around) (outer : List Env) (s : Shared) (H : Hp) (vs : List V) (Q : VK) (E : XK), Room k (A.deeper (envOfC qual (defScope st) s.heap.objs.size f cdv)) → sp vs H Q E →
      ∃ t, PSs (cxOf CX0 P w K mg base N qual (defScope st) f cdv A outer s H E).nox (defBody st) t ∧ Body t N vs H Q) : Met P w K mg base CX0 C m (k + 1) sp := by
  obtain ⟨f, fd, F, hf, hi, b⟩ := D.ex
  exact ⟨f, fd, ps, F.ok S len fun cdv A outer s H vs Q E hr h => hb f cdv A outer s H vs Q E hr h, hf, hi, F.kp, b⟩
theorem MetAt.okX (D : MetAt K C m qual st ps) (S : FnScope N ps (defScope st)) (len : ∀ vs H Q E, sp vs H Q E → vs.length = ps.length)
    (hb : ∀ (f : Addr) (cdv : Value) (A : Around) (outer : List Env) (s : Shared) (H : Hp) (vs : List V) (Q : VK) (E : XK), Room k (A.deeper (envOfC qual (defScope st) s.heap.objs.size f cdv)) → sp vs H Q E →
      ∃ t, PSs (cxOf (L2.CX P w) P w K mg base N qual (defScope st) f cdv A outer s H E) (defBody st) t ∧ Body t N vs H Q) : Met P w K mg base (L2.CX P w) C m (k + 1) sp := by
  obtain ⟨f, fd, F, hf, hi, b⟩ := D.ex
  exact ⟨f, fd, ps, F.okX S len fun cdv A outer s H vs Q E hr h => hb f cdv A outer s H vs Q E hr h, hf, hi, F.kp, b⟩
end
/-! ### 2. rules for calls of such defs -/
def tCal (sp : Sp) (E : XK) (t : TA) : TE := fun σ H Q => t σ H fun vs H1 => sp vs H1 Q E
def tMet (C : Addr) (m : Str) (sp : Sp) (E : XK) (ta : TE) (t : TA) : TE := fun σ H Q => ta σ H fun x H1 => ∃ a dx fs, x = .ref a ∧ H1 a = some (.ins C dx fs) ∧ fs.lookup m = none ∧ t σ H1 fun vs H2 => sp (x :: vs) H2 Q E
def tNewI (C : Addr) (sp : Sp) (E : XK) (t : TA) : TE := fun σ H Q => t σ H fun vs H1 => ∀ x dx, H1 x = none → H1 dx = none → dx ≠ x →
  sp (.ref x :: vs) (upd (upd H1 dx (.own x)) x (.ins C dx [])) (fun v H2 => v = .non ∧ Q (.ref x) H2) E
/-- .. where what is raised is wished for at the slots as they stand -/
def tCalS (sp : Sp) (E : L2.St → XK) (t : TA) : TE := fun σ H Q => t σ H fun vs H1 => sp vs H1 Q (E σ)
def tMetS (C : Addr) (m : Str) (sp : Sp) (E : L2.St → XK) (ta : TE) (t : TA) : TE := fun σ H Q => ta σ H fun x H1 => ∃ a dx fs, x = .ref a ∧ H1 a = some (.ins C dx fs) ∧ fs.lookup m = none ∧ t σ H1 fun vs H2 => sp (x :: vs) H2 Q (E σ)
theorem PE.of {X : Cx} {e : Expr} {t u : TE} (h : PE X e t) (k : ∀ σ H Q, u σ H Q → t σ H Q) : PE X e u := ⟨fun pins s σ H Q I q => h.run pins s σ H Q I (k σ H Q q)⟩
theorem TA.nilApp {t : TA} {σ : L2.St} {H : Hp} {R : List V → Hp → Prop} (h : t σ H R) (k : ∀ vs H', R vs H' → R vs H') : t σ H R := h
section
variable {X : Cx} {CX : CXT} {C : Addr} {x m : Str} {k : Nat} {sp : Sp} {E : XK} {p pos apos : Pos} {e o : Expr} {es : List Expr} {t : TA} {ta : TE}
theorem app_nil (sp : Sp) : (fun vs H1 (Q : VK) (E : XK) => sp (vs ++ []) H1 Q E) = fun vs H1 Q E => sp vs H1 Q E := by
  funext vs H1 Q E
  rw [List.append_nil]
theorem pe_def (D : Def X.prog X.w X.K X.mg X.base CX x k sp) (hr : Room k X.A) (hx : Passes CX X E) (ha : PA X (e :: es) t) (hg : Gl X x := by rfl) (hdb : (x == ("__debug__" : Str)) = false := by decide)
    (he : starEach (e :: es) X.env = (false, eval e X.env) :: starEach es X.env := by rfl) (hpl : (backTo pos (starEach es X.env)).any (·.1) = false := by rfl) :
    PE X (.Call (.Name x p) (e :: es) [] pos) (tCal sp E t) := by
  obtain ⟨f, fd, ps, F, hm, hk, hb⟩ := D.ex
  refine PE.of (pe_call F hr hg hm hk hb .nil hx ha hdb he hpl) fun σ H Q q => ?_
  have e := app_nil sp
  show t σ H fun vs H1 => (fun vs H1 (Q : VK) (E : XK) => sp (vs ++ []) H1 Q E) vs H1 Q E
  rw [e]
  exact q
theorem pe_def0 (D : Def X.prog X.w X.K X.mg X.base CX x k sp) (hr : Room k X.A) (hx : Passes CX X E) (hg : Gl X x := by rfl) (hdb : (x == ("__debug__" : Str)) = false := by decide) : PE X (.Call (.Name x p) [] [] pos) (tCal sp E tNil) := by
  obtain ⟨f, fd, ps, F, hm, hk, hb⟩ := D.ex
  exact pe_call0 F hr hg hm hk hb .nil hx hdb
theorem pe_met {pl : Sem Bool} (D : Met X.prog X.w X.K X.mg X.base CX C m k sp) (c : Cls X.K C) (hr : Room k X.A) (hx : Passes CX X E) (he : PE X o ta) (ha : PA X (e :: es) t)
    (hst : starEach (e :: es) X.env = (false, eval e X.env) :: starEach es X.env := by rfl) (hpl : (backTo pos (starEach es X.env)).any (·.1) = false := by rfl)
    (ht : eval (.Call (.Attribute o m apos) (e :: es) [] pos) X.env = (do
      let ov ← eval o X.env
      standAt apos.atName
      let (f, first) ← holding [ov] (getMethod ov m pl)
      callWith pos f first (backTo pos (starEach (e :: es) X.env)) (backToKw pos (keywordEach [] X.env))) := by rfl) : PE X (.Call (.Attribute o m apos) (e :: es) [] pos) (tMet C m sp E ta t) := by
  obtain ⟨f, fd, ps, F, hf, hi, hk, hb⟩ := D.ex
  refine PE.of (pe_meth he c ⟨hf, hi, hk⟩ F hr hb .nil hx ha hst hpl ht) fun σ H Q q => ?_
  have e : (fun (y : V) vs H1 (Q : VK) (E : XK) => sp (y :: (vs ++ [])) H1 Q E) = fun y vs H1 Q E => sp (y :: vs) H1 Q E := by
    funext y vs H1 Q E
    rw [List.append_nil]
  show ta σ H fun x H1 => ∃ a dx fs, x = .ref a ∧ H1 a = some (.ins C dx fs) ∧ fs.lookup m = none ∧ t σ H1 fun vs H2 => (fun (y : V) vs H1 (Q : VK) (E : XK) => sp (y :: (vs ++ [])) H1 Q E) x vs H2 Q E
  rw [e]
  exact q
theorem pe_met0 {pl : Sem Bool} (D : Met X.prog X.w X.K X.mg X.base CX C m k sp) (c : Cls X.K C) (hr : Room k X.A) (hx : Passes CX X E) (he : PE X o ta)
    (ht : eval (.Call (.Attribute o m apos) [] [] pos) X.env = (do
      let ov ← eval o X.env
      standAt apos.atName
      let (f, first) ← holding [ov] (getMethod ov m pl)
      callWith pos f first (backTo pos (starEach [] X.env)) (backToKw pos (keywordEach [] X.env))) := by rfl) : PE X (.Call (.Attribute o m apos) [] [] pos) (tMet C m sp E ta tNil) := by
  obtain ⟨f, fd, ps, F, hf, hi, hk, hb⟩ := D.ex
  exact pe_meth0 he c ⟨hf, hi, hk⟩ F hr hb .nil hx ht
theorem pe_defS {E : L2.St → XK} (D : Def X.prog X.w X.K X.mg X.base CX x k sp) (hr : Room k X.A) (hx : ∀ σ, PassesAt CX X σ (E σ)) (ha : PA X (e :: es) t) (hg : Gl X x := by rfl) (hdb : (x == ("__debug__" : Str)) = false := by decide)
    (he : starEach (e :: es) X.env = (false, eval e X.env) :: starEach es X.env := by rfl) (hpl : (backTo pos (starEach es X.env)).any (·.1) = false := by rfl) :
    PE X (.Call (.Name x p) (e :: es) [] pos) (tCalS sp E t) := by
  obtain ⟨f, fd, ps, F, hm, hk, hb⟩ := D.ex
  refine ⟨fun pins s σ H Q I h => ?_⟩
  refine wpAny_Call_Name_kw (ld_glob I hg hm ?_ hdb)
  refine PySem.W.callWith_K (h₀ := X.base) I.ok.mod.kin hk (thn (ha.run pos pins s σ H _ I h) fun us s1 ⟨vs, H1, I1, r, q⟩ => ⟨I1.kIn, ?_⟩) he hpl
  exact run_fnS F hr hb (hx σ) I1 r q
theorem pe_metS {E : L2.St → XK} {pl : Sem Bool} (D : Met X.prog X.w X.K X.mg X.base CX C m k sp) (c : Cls X.K C) (hr : Room k X.A) (hx : ∀ σ, PassesAt CX X σ (E σ)) (he : PE X o ta) (ha : PA X (e :: es) t)
    (hst : starEach (e :: es) X.env = (false, eval e X.env) :: starEach es X.env := by rfl) (hpl : (backTo pos (starEach es X.env)).any (·.1) = false := by rfl)
    (ht : eval (.Call (.Attribute o m apos) (e :: es) [] pos) X.env = (do
      let ov ← eval o X.env
      standAt apos.atName
      let (f, first) ← holding [ov] (getMethod ov m pl)
      callWith pos f first (backTo pos (starEach (e :: es) X.env)) (backToKw pos (keywordEach [] X.env))) := by rfl) : PE X (.Call (.Attribute o m apos) (e :: es) [] pos) (tMetS C m sp E ta t) := by
  obtain ⟨f, fd, ps, F, hf, hi, hk, hb⟩ := D.ex
  refine ⟨fun pins s σ H Q I h => PySem.W.methodCall_KW (thn (he.run pins s σ H _ I h) fun u s1 w => ?_) ht⟩
  obtain ⟨x, H1, I1, rx, a, dx, fs, ex, ea, l, q⟩ := w
  subst ex
  cases rx
  refine getmeth_ok I1 ea c ⟨hf, hi, hk⟩ l ?_
  refine PySem.W.callWith_K (first := [.ref a]) (h₀ := X.base) I.ok.mod.kin hk (thn (ha.run pos pins s1 σ H1 _ I1 q) fun us s2 ⟨vs, H2, I2, r, q2⟩ => ⟨I2.kIn, ?_⟩) hst hpl
  exact run_fnS (us := .ref a :: us) (vs := .ref a :: vs) F hr hb (hx σ) I2 (.cons rfl r) q2
/-- what the top says of a class that is made by its own __init__ -/
structure ClsMk (K : PySem.W.Frag) (mg : Str → Option Value) (x : Str) (C : Addr) : Prop where
  gC : mg x = some (.ref C)
  cl : Cls K C
  makes : PySem.W.makesIn K C = true
  kp : PySem.W.keepIn K (.ref C) = true
theorem pe_new0 (D : Met X.prog X.w X.K X.mg X.base CX C "__init__" k sp) (M : ClsMk X.K X.mg x C) (hr : Room (k + 1) X.A) (hx : Passes CX X E) (hg : Gl X x := by rfl) (hdb : (x == ("__debug__" : Str)) = false := by decide) :
    PE X (.Call (.Name x p) [] [] pos) (tNewI C sp E tNil) := by
  obtain ⟨f, fd, ps, F, hf, hi, hk, hb⟩ := D.ex
  exact pe_make0 ⟨M.makes, hf, hi, M.kp⟩ F hr hg M.gC hb .nil hx hdb
end
end WM
set_option Elab.async false
set_option linter.all false
set_option maxRecDepth 100000
set_option maxHeartbeats 2000000
namespace WM
open PySem PySem.Spec PyProof.Rows L2
/-! ### 1. readings by name -/
def rAddA : R2 := fun x y H Q => ((∃ i j, x = .int i ∧ y = .int j ∧ Q (.int (i + j)) H) ∨ (∃ i j, x = .str i ∧ y = .str j ∧ i.length + j.length ≤ sizeLine ∧ Q (.str (i ++ j)) H)) ∨ rCat x y H Q
def rCmpI (p : Int → Int → Bool) : R2 := rI0 fun i j => .bl (p i j)
def rSubI : R2 := rI0 fun i j => .int (i - j)
def rMulI : R2 := rI CMul fun i j => .int (i * j)
def rModI : R2 := rI (fun _ j => 0 < j) fun i j => .int (i % j)
def rDivI : R2 := rI CDiv fun i j => .int (i / j)
def rPowI : R2 := rI CPow fun i j => .int (i ^ j.toNat)
def rMulS : R2 := fun x y H Q => ∃ (z : Str) (n : Int), x = .str z ∧ y = .int n ∧ 2 ≤ n ∧ n ≤ 1000 ∧ 1 ≤ z.length ∧ z.length ≤ 1000 ∧ Q (.str ⟨(List.replicate n.toNat z.cps).foldl (· ++ ·) #[]⟩) H
def rEqA (K : PySem.W.Frag) : R2 := fun x y H Q => rEq x y H Q ∨ rEqD K x y H Q
def rNeA (K : PySem.W.Frag) : R2 := fun x y H Q => rNe x y H Q ∨ rNeD K x y H Q
def rIsNo : R2 := fun x y H Q => y = .non ∧ Q (.bl (decide (x = .non))) H
def rNotNo : R2 := fun x y H Q => y = .non ∧ Q (.bl (!decide (x = .non))) H
def rSlA (K : PySem.W.Frag) : V → Option Int → Option Int → Hp → VK → Prop := fun x lo hi H Q => rSlL K x lo hi H Q ∨ rSlS x lo hi H Q
def rLenA (K : PySem.W.Frag) : List V → Hp → VK → Prop := fun xs H Q => (∃ p ys, xs = [.ref p] ∧ (SqL K H p ys ∨ SqT K H p ys) ∧ Q (.int ys.length) H) ∨ ∃ z, xs = [.str z] ∧ z.length ≤ sizeLine ∧ Q (.int z.length) H
def rListA (K : PySem.W.Frag) : List V → Hp → VK → Prop := fun xs H Q => ∃ p ys, xs = [.ref p] ∧ (SqL K H p ys ∨ SqT K H p ys) ∧ ∀ l, H l = none → Q (.ref l) (upd H l (.lst ys))
def rStrI : List V → Hp → VK → Prop := fun xs H Q => ∃ i, xs = [.int i] ∧ i.natAbs.log2 < 1920 ∧ Q (.str (toString i)) H
def rMaxI : List V → Hp → VK → Prop := fun xs H Q => ∃ i j, xs = [.int i, .int j] ∧ Q (.int (if j > i then j else i)) H
def rMinI : List V → Hp → VK → Prop := fun xs H Q => ∃ i j, xs = [.int i, .int j] ∧ Q (.int (if j < i then j else i)) H
section
variable {X : Cx}
theorem op_addA : OpR X (binaryOp .Add) rAddA := (op_add.or op_add_str).or op_cat
theorem op_subI : OpR X (binaryOp .Sub) rSubI := op_sub
theorem op_mulI : OpR X (binaryOp .Mult) rMulI := op_mul
theorem op_modI : OpR X (binaryOp .Mod) rModI := op_mod
theorem op_divI : OpR X (binaryOp .FloorDiv) rDivI := op_fdiv
theorem op_powI : OpR X (binaryOp .Pow) rPowI := op_pow
theorem op_mulS : OpR X (binaryOp .Mult) rMulS := by
  intro pins s σ H x y v u Q I rx ry h
  obtain ⟨z, n, rfl, rfl, h2, h3, h4, h5, q⟩ := h
  obtain ⟨t, rfl⟩ := rx
  obtain ⟨t', rfl⟩ := ry
  have e1 : decide (n < -(2 ^ 63 : Int)) = false := decide_eq_false (by omega)
  have e2 : decide (n ≥ 2 ^ 63) = false := decide_eq_false (by omega)
  have n1 : (n == 1) = false := by simp; omega
  have n2 : (z.length == 0) = false := by simp; omega
  have hm : z.length * n.toNat ≤ 1000 * 1000 := Nat.mul_le_mul h5 (by omega)
  refine PySem.P.mul_str (by rw [e1, e2] <;> rfl) (fun _ _ hg => ?_) (fun _ _ => ?_) ?_
  · have q1 : (1000 : Int) ≤ (2 ^ 63 - 1) / n := by
      refine (Int.le_ediv_iff_mul_le (by omega)).mpr ?_
      omega
    omega
  · exact decide_eq_false (by rw [sizeLine_eq]; omega)
  · rw [if_neg (by omega), if_neg (by rw [n1, n2]; decide)]
    have hz : (Str.mk ((List.replicate n.toNat z.cps).foldl (· ++ ·) #[])).length ≤ sizeLine := by
      have len : ∀ (k : Nat) (acc : Array Nat), ((List.replicate k z.cps).foldl (· ++ ·) acc).size = acc.size + k * z.cps.size := by
        intro k
        induction k with
        | zero => intro acc; simp
        | succ k ih =>
          intro acc
          rw [List.replicate_succ, List.foldl_cons, ih, Array.size_append, Nat.succ_mul]
          omega
      show ((List.replicate n.toNat z.cps).foldl (· ++ ·) #[]).size ≤ sizeLine
      rw [len, sizeLine_eq]
      have hz' : n.toNat * z.cps.size = z.length * n.toNat := Nat.mul_comm _ _
      rw [hz']
      simp only [Array.size_empty]
      omega
    exact ⟨hz, ⟨.str _, H, I.tok _, ⟨_, rfl⟩, q⟩⟩
theorem op_ltI : OpR X (compareOp .Lt) (rCmpI fun i j => decide (i < j)) := op_lt
theorem op_leI : OpR X (compareOp .LtE) (rCmpI fun i j => decide (i ≤ j)) := op_le
theorem op_gtI : OpR X (compareOp .Gt) (rCmpI fun i j => decide (j < i)) := op_gt
theorem op_geI : OpR X (compareOp .GtE) (rCmpI fun i j => decide (j ≤ i)) := op_ge
theorem op_eqA (hu : X.A.units + 64 < cLine) : OpR X (compareOp .Eq) (rEqA X.K) := op_eq.or (op_eqD hu)
theorem op_neA (hu : X.A.units + 64 < cLine) : OpR X (compareOp .NotEq) (rNeA X.K) := op_ne.or (op_neD hu)
theorem op_isNo : OpR X (compareOp .Is) rIsNo := op_isN
theorem op_notNo : OpR X (compareOp .IsNot) rNotNo := op_notN
theorem sl_any : SlR X (rSlA X.K) := sl_list.or sl_str
theorem call_lenA : CallR X (.builtin "len") (rLenA X.K) := call_len_seq.or call_len_str
theorem call_listA : CallR X (.type "list") (rListA X.K) := call_list_of
theorem call_strI : CallR X (.type "str") rStrI := call_str_int
theorem call_maxI (hc : X.calm = true) : CallR X (.builtin "max") rMaxI := call_max2 hc
theorem call_minI (hc : X.calm = true) : CallR X (.builtin "min") rMinI := call_min2 hc
end
/-! ### 2. what follows, by name -/
def kB (Q : Bool → Hp → Prop) : VK := fun x H => ∃ k, x = .bl k ∧ Q k H
def kIf (b : Bool) (A B : Prop) : Prop := if b = true then A else B
def kTup (xs : List V) (H : Hp) (Q : VK) : Prop := xs.length ≤ sizeLine ∧ ∀ p, H p = none → Q (.ref p) (upd H p (.tup xs))
def kLst (xs : List V) (H : Hp) (Q : VK) : Prop := xs.length ≤ sizeLine ∧ ∀ p, H p = none → Q (.ref p) (upd H p (.lst xs))
def kFld (K : PySem.W.Frag) (f : Str) (Q : VK) : VK := fun x H => ∃ a C dx fs v, x = .ref a ∧ H a = some (.ins C dx fs) ∧ Cls K C ∧ NoAttr K C f ∧ fs.lookup f = some v ∧ Q v H
def kSet (K : PySem.W.Frag) (f : Str) (y : V) (N : Hp → Prop) : VK := fun x H => ∃ a C dx fs, x = .ref a ∧ H a = some (.ins C dx fs) ∧ Cls K C ∧ NoAttr K C f ∧ fs.length < 1000 ∧ N (upd H a (.ins C dx (putF f y fs)))
def kBM (K : PySem.W.Frag) (T : String) (t : TA) (r : V → List V → Hp → VK → Prop) (σ : L2.St) (Q : VK) : VK := fun x H => tyV K T x H ∧ t σ H fun xs H' => r x xs H' Q
def kMet (C : Addr) (m : Str) (sp : Sp) (E : XK) (t : TA) (σ : L2.St) (Q : VK) : VK := fun x H => ∃ a dx fs, x = .ref a ∧ H a = some (.ins C dx fs) ∧ fs.lookup m = none ∧ t σ H fun vs H' => sp (x :: vs) H' Q E
def kP (Q : Option Int → Hp → Prop) : VK := fun x H => ∃ i, x = .int i ∧ Q (some i) H
def kTwo (N : V → V → Hp → Prop) (vs : List V) (H : Hp) : Prop := ∃ v u, vs = [v, u] ∧ N v u H
def kThree (N : V → V → V → Hp → Prop) (vs : List V) (H : Hp) : Prop := ∃ u v z, vs = [u, v, z] ∧ N u v z H
def kNew (C : Addr) (sp : Sp) (E : XK) (vs : List V) (H : Hp) (Q : VK) : Prop := ∀ x dx, H x = none → H dx = none → dx ≠ x → sp (.ref x :: vs) (upd (upd H dx (.own x)) x (.ins C dx [])) (fun v H2 => v = .non ∧ Q (.ref x) H2) E
section
variable {K : PySem.W.Frag} {σ : L2.St} {H : Hp} {Q : VK} {Qb : Bool → Hp → Prop} {te ta tb tc : TE} {tt tu : TT} {t u : TS} {tas : TA} {N B C : L2.St → Hp → Prop} {R : VK} {i j : Nat} {v x y : V} {r : R2} {a b p : Addr} {f : Str}
/-! ### 3. steps: statements -/
theorem x_seq (h : Run t (fun σ' H' => Run u N R B C σ' H') R B C σ H) : Run (tSeq t u) N R B C σ H := h
theorem x_asg {g : TG} (h : te σ H fun x H1 => g x σ H1 N) : Run (tAsg te g) N R B C σ H := h
theorem x_drop (h : te σ H fun _ H1 => N σ H1) : Run (tDrop te) N R B C σ H := h
theorem x_ret (h : te σ H R) : Run (tRet te) N R B C σ H := h
theorem x_retN (h : R .non H) : Run tRetN N R B C σ H := h
theorem x_if (h : tt σ H fun b H1 => kIf b (Run t N R B C σ H1) (Run u N R B C σ H1)) : Run (tIfS tt t u) N R B C σ H := h
theorem x_next (h : N σ H) : Run tNext N R B C σ H := h
theorem x_brk (h : B σ H) : Run tBreak N R B C σ H := h
theorem x_cont (h : C σ H) : Run tCont N R B C σ H := h
theorem x_par (h : tas σ H (kTwo fun v u H1 => N ((σ.set i (some v)).set j (some u)) H1)) : Run (tPar i j tas) N R B C σ H := h
theorem x_par3 {l : Nat} (h : tas σ H (kThree fun u v z H1 => N (((σ.set i (some u)).set j (some v)).set l (some z)) H1)) : Run (tPar3 i j l tas) N R B C σ H := h
theorem x_two {N : V → V → Hp → Prop} (h : N x y H) : kTwo N [x, y] H := ⟨x, y, rfl, h⟩
theorem x_three {N : V → V → V → Hp → Prop} (h : N x y v H) : kThree N [x, y, v] H := ⟨x, y, v, rfl, h⟩
theorem x_sfld (h : tb σ H fun y H1 => ta σ H1 (kSet K f y (N σ))) : Run (sFld K ta tb f) N R B C σ H := h
theorem x_body {vs : List V} {Nm : List Str} (h : Run t (fun _ H' => Q .non H') Q (fun _ _ => False) (fun _ _ => False) (start Nm vs) H) : Body t Nm vs H Q := h
/-! ### 4. steps: targets -/
theorem x_name {G : L2.St → Hp → Prop} (h : G (σ.set i (some v)) H) : gName i v σ H G := h
theorem x_gtup {G : L2.St → Hp → Prop} {n : Nat} {gs : TGs} {xs : List V} (hp : H p = some (.tup xs)) (hl : xs.length = n) (h : gs xs σ H G) : gTup K n gs (.ref p) σ H G := ⟨p, xs, rfl, SqT.of hp, hl, h⟩
theorem x_gcons {G : L2.St → Hp → Prop} {g : TG} {gs : TGs} {vs : List V} (h : g v σ H fun σ' H' => gs vs σ' H' G) : gCons g gs (v :: vs) σ H G := ⟨v, vs, rfl, h⟩
theorem x_gnil {G : L2.St → Hp → Prop} (h : G σ H) : gNil [] σ H G := ⟨rfl, h⟩
theorem x_gsub {G : L2.St → Hp → Prop} {ts : TSet} (h : ta σ H fun o H1 => tb σ H1 fun i H2 => ts o i v H2 fun H3 => G σ H3) : gSub ta tb ts v σ H G := h
theorem x_setL {G : Hp → Prop} {xs : List V} {k : Int} (hp : H p = some (.lst xs)) (hk : ixN xs.length k = some j) (h : ∀ H', Kp [p] H H' → H' p = some (.lst (xs.set j v)) → G H') : rSetL (.ref p) (.int k) v H G :=
  ⟨p, xs, k, j, rfl, rfl, hp, hk, h _ ((Kp.refl _ _).updIn List.mem_cons_self (NoT.lst hp)) upd_same⟩
/-! ### 5. steps: expressions -/
theorem x_var (h : σ[i]? = some (some v)) (q : Q v H) : tVar i σ H Q := ⟨v, h, q⟩
theorem x_c (q : Q v H) : tC v σ H Q := q
theorem x_op (h : ta σ H fun x H1 => tb σ H1 fun y H2 => r x y H2 Q) : tOp r ta tb σ H Q := h
theorem x_un {r : V → Hp → VK → Prop} (h : ta σ H fun x H1 => r x H1 Q) : tUn r ta σ H Q := h
theorem x_nil {G : List V → Hp → Prop} (h : G [] H) : tNil σ H G := h
theorem x_cons {G : List V → Hp → Prop} (h : te σ H fun x H1 => tas σ H1 fun xs H2 => G (x :: xs) H2) : tCons te tas σ H G := h
theorem x_tup (h : tas σ H fun xs H1 => kTup xs H1 Q) : tTup tas σ H Q := h
theorem x_lst (h : tas σ H fun xs H1 => kLst xs H1 Q) : tLst tas σ H Q := h
theorem x_newT {xs : List V} (hl : xs.length ≤ 100000) (h : ∀ p H', Kp [] H H' → H p = none → H' p = some (.tup xs) → Q (.ref p) H') : kTup xs H Q :=
  ⟨Nat.le_trans hl (by decide), fun p hp => h p _ ((Kp.refl _ _).updNew hp) hp upd_same⟩
theorem x_newL {xs : List V} (hl : xs.length ≤ 100000) (h : ∀ p H', Kp [] H H' → H p = none → H' p = some (.lst xs) → Q (.ref p) H') : kLst xs H Q :=
  ⟨Nat.le_trans hl (by decide), fun p hp => h p _ ((Kp.refl _ _).updNew hp) hp upd_same⟩
theorem x_fldE (h : ta σ H (kFld K f Q)) : tFld K ta f σ H Q := h
theorem x_fld {C dx : Addr} {fs : List (Str × V)} (ha : H a = some (.ins C dx fs)) (c : Cls K C) (n : NoAttr K C f) (l : fs.lookup f = some v) (q : Q v H) : kFld K f Q (.ref a) H := ⟨a, C, dx, fs, v, rfl, ha, c, n, l, q⟩
theorem x_setF {C dx : Addr} {fs gs : List (Str × V)} {G : Hp → Prop} (ha : H a = some (.ins C dx fs)) (c : Cls K C) (n : NoAttr K C f) (l : fs.length < 1000) (e : putF f y fs = gs) (q : ∀ H', Kp [a] H H' → H' a = some (.ins C dx gs) → G H') : kSet K f y G (.ref a) H :=
  ⟨a, C, dx, fs, rfl, ha, c, n, l, q _ ((Kp.refl _ _).updIn List.mem_cons_self (NoT.ins ha)) (by rw [e]; exact upd_same)⟩
theorem x_cal {sp : Sp} {E : XK} (h : tas σ H fun vs H1 => sp vs H1 Q E) : tCal sp E tas σ H Q := h
theorem x_metE {C : Addr} {m : Str} {sp : Sp} {E : XK} (h : ta σ H (kMet C m sp E tas σ Q)) : tMet C m sp E ta tas σ H Q := h
theorem x_met {C dx : Addr} {m : Str} {sp : Sp} {E : XK} {fs : List (Str × V)} (ha : H a = some (.ins C dx fs)) (l : fs.lookup m = none) (h : tas σ H fun vs H1 => sp (.ref a :: vs) H1 Q E) : kMet C m sp E tas σ Q (.ref a) H := ⟨a, dx, fs, rfl, ha, l, h⟩
theorem x_calS {sp : Sp} {E : L2.St → XK} (h : tas σ H fun vs H1 => sp vs H1 Q (E σ)) : tCalS sp E tas σ H Q := h
theorem x_metS {C : Addr} {m : Str} {sp : Sp} {E : L2.St → XK} (h : ta σ H (kMet C m sp (E σ) tas σ Q)) : tMetS C m sp E ta tas σ H Q := h
theorem x_newI {C : Addr} {sp : Sp} {E : XK} (h : tas σ H fun vs H1 => kNew C sp E vs H1 Q) : tNewI C sp E tas σ H Q := h
theorem x_cb {r : List V → Hp → VK → Prop} (h : tas σ H fun vs H1 => r vs H1 Q) : tCB r tas σ H Q := h
theorem x_bm {T : String} {r : V → List V → Hp → VK → Prop} (h : ta σ H (kBM K T tas r σ Q)) : tBM K T r ta tas σ H Q := h
theorem x_bm0 {T : String} {r : V → List V → Hp → VK → Prop} (h : ta σ H (kBM K T tNil r σ Q)) : tBM0 K T r ta σ H Q := h
theorem x_bmL {r : V → List V → Hp → VK → Prop} {xs : List V} (hp : H p = some (.lst xs)) (h : tas σ H fun ys H1 => r (.ref p) ys H1 Q) : kBM K "list" tas r σ Q (.ref p) H := ⟨.inl ⟨rfl, xs, SqL.of hp⟩, h⟩
theorem x_sl {r : V → Option Int → Option Int → Hp → VK → Prop} {tl th : TO} (h : ta σ H fun x H1 => tl σ H1 fun l H2 => th σ H2 fun u H3 => r x l u H3 Q) : tSl r ta tl th σ H Q := h
theorem x_nop {G : Option Int → Hp → Prop} (h : G none H) : tNoPart σ H G := h
theorem x_part {G : Option Int → Hp → Prop} (h : ta σ H (kP G)) : tPart ta σ H G := h
theorem x_kP {G : Option Int → Hp → Prop} {i : Int} (h : G (some i) H) : kP G (.int i) H := ⟨i, rfl, h⟩
theorem x_ife (h : tt σ H fun b H1 => kIf b (ta σ H1 Q) (tb σ H1 Q)) : tIf tt ta tb σ H Q := h
theorem x_andV (h : ta σ H (kB fun c H1 => kIf c (tb σ H1 Q) (Q (.bl false) H1))) : tAndV ta tb σ H Q := h
theorem x_orV (h : ta σ H (kB fun c H1 => kIf c (Q (.bl true) H1) (tb σ H1 Q))) : tOrV ta tb σ H Q := h
theorem x_notV (h : ta σ H (kB fun c H1 => Q (.bl (!c)) H1)) : tNotV ta σ H Q := h
/-! ### 6. steps: tests -/
theorem x_test (h : te σ H (kB Qb)) : tTest te σ H Qb := h
theorem x_tB (h : te σ H (kB Qb)) : tB te σ H Qb := h
theorem x_kB {b : Bool} (h : Qb b H) : kB Qb (.bl b) H := ⟨b, rfl, h⟩
theorem x_and (h : tt σ H fun c H1 => kIf c (tu σ H1 Qb) (Qb false H1)) : tAnd tt tu σ H Qb := h
theorem x_or (h : tt σ H fun c H1 => kIf c (Qb true H1) (tu σ H1 Qb)) : tOr tt tu σ H Qb := h
theorem x_not (h : tt σ H fun c H1 => Qb (!c) H1) : tNot tt σ H Qb := h
theorem k_T {A B : Prop} (h : A) : kIf true A B := h
theorem k_F {A B : Prop} (h : B) : kIf false A B := iteF h
theorem k_dec {A B q : Prop} [Decidable q] (h1 : q → A) (h2 : ¬ q → B) : kIf (decide q) A B := by
  by_cases h : q
  · rw [decide_eq_true h]; exact h1 h
  · rw [decide_eq_false h]; exact k_F (h2 h)
theorem k_is {A B q : Prop} [Decidable q] (hq : q) (h : A) : kIf (decide q) A B := by rw [decide_eq_true hq]; exact h
theorem k_no {A B q : Prop} [Decidable q] (hq : ¬ q) (h : B) : kIf (decide q) A B := by rw [decide_eq_false hq]; exact k_F h
theorem k_b {b : Bool} {A B : Prop} (h1 : b = true → A) (h2 : b = false → B) : kIf b A B := by
  cases b with
  | true => exact h1 rfl
  | false => exact k_F (h2 rfl)
theorem k_not {b : Bool} {A B : Prop} (h : kIf b B A) : kIf (!b) A B := by
  cases b with
  | true => exact k_F (show B from h)
  | false =>
    have h' : A := by
      have z : (if false = true then B else A) := h
      rw [if_neg Bool.false_ne_true] at z
      exact z
    exact h'
theorem k_bT {b : Bool} {A B : Prop} (e : b = true) (h : A) : kIf b A B := by rw [e]; exact h
theorem k_bF {b : Bool} {A B : Prop} (e : b = false) (h : B) : kIf b A B := by rw [e]; exact k_F h
/-! ### 7. steps: operators by values -/
theorem x_addI {i j : Int} (q : Q (.int (i + j)) H) : rAddA (.int i) (.int j) H Q := .inl (.inl ⟨i, j, rfl, rfl, q⟩)
theorem x_addS {i j : Str} (hl : i.length + j.length ≤ 100000) (q : Q (.str (i ++ j)) H) : rAddA (.str i) (.str j) H Q := .inl (.inr ⟨i, j, rfl, rfl, Nat.le_trans hl (by decide), q⟩)
theorem x_addL {xs ys : List V} (ha : H a = some (.lst xs)) (hb : H b = some (.lst ys)) (hl : xs.length + ys.length ≤ 100000) (h : ∀ p H', Kp [] H H' → H p = none → H' p = some (.lst (xs ++ ys)) → Q (.ref p) H') : rAddA (.ref a) (.ref b) H Q :=
  .inr ⟨a, b, xs, ys, rfl, rfl, ha, hb, Nat.le_trans hl (by decide), fun p hp => h p _ ((Kp.refl _ _).updNew hp) hp upd_same⟩
theorem x_cmp {q : Int → Int → Bool} {i j : Int} (h : Q (.bl (q i j)) H) : rCmpI q (.int i) (.int j) H Q := ⟨i, j, rfl, rfl, h⟩
theorem x_subI {i j : Int} (q : Q (.int (i - j)) H) : rSubI (.int i) (.int j) H Q := ⟨i, j, rfl, rfl, q⟩
theorem x_mulI {i j : Int} (c : CMul i j) (q : Q (.int (i * j)) H) : rMulI (.int i) (.int j) H Q := ⟨i, j, rfl, rfl, c, q⟩
theorem x_modI {i j : Int} (c : 0 < j) (q : Q (.int (i % j)) H) : rModI (.int i) (.int j) H Q := ⟨i, j, rfl, rfl, c, q⟩
theorem x_divI {i j : Int} (c : 0 < j) (c2 : j < 1073741824) (q : Q (.int (i / j)) H) : rDivI (.int i) (.int j) H Q := ⟨i, j, rfl, rfl, ⟨c, c2⟩, q⟩
theorem x_powI {i j : Int} (c : CPow i j) (q : Q (.int (i ^ j.toNat)) H) : rPowI (.int i) (.int j) H Q := ⟨i, j, rfl, rfl, c, q⟩
theorem x_mulS {z : Str} {n : Int} (h2 : 2 ≤ n) (h3 : n ≤ 1000) (h4 : 1 ≤ z.length) (h5 : z.length ≤ 1000) (q : Q (.str ⟨(List.replicate n.toNat z.cps).foldl (· ++ ·) #[]⟩) H) : rMulS (.str z) (.int n) H Q := ⟨z, n, rfl, rfl, h2, h3, h4, h5, q⟩
theorem dec_I {i j : Int} : decide (V.int i = V.int j) = decide (i = j) := by
  by_cases h : i = j
  · subst h; simp
  · rw [decide_eq_false h, decide_eq_false fun z => h (V.int.inj z)]
theorem dec_S {i j : Str} : decide (V.str i = V.str j) = decide (i = j) := by
  by_cases h : i = j
  · subst h; simp
  · rw [decide_eq_false h, decide_eq_false fun z => h (V.str.inj z)]
theorem x_eqI {i j : Int} (q : Q (.bl (decide (i = j))) H) : rEqA K (.int i) (.int j) H Q := .inl ⟨rfl, by rw [dec_I]; exact q⟩
theorem x_eqS {i j : Str} (q : Q (.bl (decide (i = j))) H) : rEqA K (.str i) (.str j) H Q := .inl ⟨rfl, by rw [dec_S]; exact q⟩
theorem x_eqD {d e : PyData} (h1 : Dp K H x d) (h2 : Dp K H y e) (h3 : Shp 60 d) (h4 : Shp 60 e) (q : Q (.bl (PyData.eqv d e)) H) : rEqA K x y H Q := .inr ⟨d, e, h1, h2, h3.ok (by decide), h4.ok (by decide), q⟩
theorem x_neI {i j : Int} (q : Q (.bl (!decide (i = j))) H) : rNeA K (.int i) (.int j) H Q := .inl ⟨rfl, by rw [dec_I]; exact q⟩
theorem x_neS {i j : Str} (q : Q (.bl (!decide (i = j))) H) : rNeA K (.str i) (.str j) H Q := .inl ⟨rfl, by rw [dec_S]; exact q⟩
theorem x_neV (h : scal x y = true) (q : Q (.bl (!decide (x = y))) H) : rNeA K x y H Q := .inl ⟨h, q⟩
theorem x_neD {d e : PyData} (h1 : Dp K H x d) (h2 : Dp K H y e) (h3 : Shp 60 d) (h4 : Shp 60 e) (q : Q (.bl (!PyData.eqv d e)) H) : rNeA K x y H Q := .inr ⟨d, e, h1, h2, h3.ok (by decide), h4.ok (by decide), q⟩
theorem x_isNo (q : Q (.bl (decide (x = .non))) H) : rIsNo x .non H Q := ⟨rfl, q⟩
theorem x_notNo (q : Q (.bl (!decide (x = .non))) H) : rNotNo x .non H Q := ⟨rfl, q⟩
theorem x_ixL {xs : List V} {i : Int} (ha : SqL K H a xs) (e : atI xs i = some v) (q : Q v H) : rIx K (.ref a) (.int i) H Q := .inl ⟨a, xs, i, v, rfl, rfl, ha, e, q⟩
theorem x_ixT {xs : List V} {i : Int} (ha : H a = some (.tup xs)) (e : atI xs i = some v) (q : Q v H) : rIx K (.ref a) (.int i) H Q := .inr (.inl ⟨a, xs, i, v, rfl, rfl, SqT.of ha, e, q⟩)
theorem x_ixS {z : Str} {i : Int} {c : Nat} (hl : z.length ≤ 100000) (e : atI z.cps.toList i = some c) (q : Q (.str ⟨#[c]⟩) H) : rIx K (.str z) (.int i) H Q := .inr (.inr ⟨z, i, c, rfl, rfl, Nat.le_trans hl (by decide), e, q⟩)
theorem x_slL {xs : List V} {lo hi : Option Int} (ha : H a = some (.lst xs)) (h : ∀ p H', Kp [] H H' → H p = none → H' p = some (.lst (cutV xs lo hi)) → Q (.ref p) H') : rSlA K (.ref a) lo hi H Q :=
  .inl ⟨a, xs, rfl, SqL.of ha, fun p hp => h p _ ((Kp.refl _ _).updNew hp) hp upd_same⟩
theorem x_slS {z : Str} {lo hi : Option Int} (hl : z.length ≤ 100000) (q : Q (.str (cutS z lo hi)) H) : rSlA K (.str z) lo hi H Q := .inr ⟨z, rfl, Nat.le_trans hl (by decide), q⟩
theorem x_lenL {xs : List V} (ha : SqL K H a xs) (q : Q (.int xs.length) H) : rLenA K [.ref a] H Q := .inl ⟨a, xs, rfl, .inl ha, q⟩
theorem x_lenS {z : Str} (hl : z.length ≤ 100000) (q : Q (.int z.length) H) : rLenA K [.str z] H Q := .inr ⟨z, rfl, Nat.le_trans hl (by decide), q⟩
theorem x_listL {xs : List V} (ha : H a = some (.lst xs)) (h : ∀ p H', Kp [] H H' → H p = none → H' p = some (.lst xs) → Q (.ref p) H') : rListA K [.ref a] H Q :=
  ⟨a, xs, rfl, .inl (SqL.of ha), fun p hp => h p _ ((Kp.refl _ _).updNew hp) hp upd_same⟩
theorem x_strI {i : Int} (hl : i.natAbs.log2 < 1920) (q : Q (.str (toString i)) H) : rStrI [.int i] H Q := ⟨i, rfl, hl, q⟩
theorem x_max {i j : Int} (q : Q (.int (if j > i then j else i)) H) : rMaxI [.int i, .int j] H Q := ⟨i, j, rfl, q⟩
theorem x_min {i j : Int} (q : Q (.int (if j < i then j else i)) H) : rMinI [.int i, .int j] H Q := ⟨i, j, rfl, q⟩
theorem x_in {neg : Bool} {xs : List V} (ha : SqL K H a xs) (fx : flatV x = true) (fa : xs.all flatV = true) (q : Q (.bl (if neg then !inV x xs else inV x xs)) H) : rIn K neg x (.ref a) H Q := ⟨a, xs, rfl, .inl ha, fx, fa, q⟩
theorem x_append {xs : List V} (ha : H a = some (.lst xs)) (hl : xs.length < 100000) (h : ∀ H', Kp [a] H H' → H' a = some (.lst (xs ++ [y])) → Q .non H') : rAppend (.ref a) [y] H Q :=
  ⟨a, xs, y, rfl, rfl, ha, Nat.lt_of_lt_of_le hl (by decide), h _ ((Kp.refl _ _).updIn List.mem_cons_self (NoT.lst ha)) upd_same⟩
theorem x_pop {xs : List V} (ha : H a = some (.lst xs)) (e : xs[xs.length - 1]? = some y) (h : ∀ H', Kp [a] H H' → H' a = some (.lst xs.dropLast) → Q y H') : rPop (.ref a) [] H Q :=
  ⟨a, xs, y, rfl, rfl, ha, e, h _ ((Kp.refl _ _).updIn List.mem_cons_self (NoT.lst ha)) upd_same⟩
theorem seq_nat {k n : Nat} (h : k < n) : seqIndex? (k : Int) n = some k := by
  have e : ixN n (k : Int) = some k := by
    unfold ixN
    rw [if_pos (by omega), if_pos (by omega)]
    rfl
  exact (ixN_seq e).1
theorem x_popAt {xs : List V} {k : Nat} (ha : H a = some (.lst xs)) (e : xs[k]? = some y) (hk : k < 2 ^ 62) (h : ∀ H', Kp [a] H H' → H' a = some (.lst (xs.eraseIdx k)) → Q y H') : rPopAt (.ref a) [.int (k : Int)] H Q :=
  ⟨a, xs, k, k, y, rfl, rfl, ha, by omega, by omega, seq_nat (List.getElem?_eq_some_iff.mp e).1, e, h _ ((Kp.refl _ _).updIn List.mem_cons_self (NoT.lst ha)) upd_same⟩
def rInsert : V → List V → Hp → VK → Prop := fun x vs H Q => ∃ (l : Addr) (xs : List V) (i : Int) (y : V), x = .ref l ∧ vs = [.int i, y] ∧ H l = some (.lst xs) ∧ xs.length < sizeLine ∧ 0 ≤ i ∧ i < 2 ^ 63 ∧ Q .non (upd H l (.lst (xs.take i.toNat ++ [y] ++ xs.drop i.toNat)))
theorem mt_ins {X : Cx} : MtR X "list.insert" rInsert := mt_insert
theorem x_insert {xs : List V} {k : Nat} (ha : H a = some (.lst xs)) (hl : xs.length < 100000) (hk : k < 2 ^ 62) (h : ∀ H', Kp [a] H H' → H' a = some (.lst (xs.take k ++ [y] ++ xs.drop k)) → Q .non H') : rInsert (.ref a) [.int (k : Int), y] H Q :=
  ⟨a, xs, k, y, rfl, rfl, ha, Nat.lt_of_lt_of_le hl (by decide), by omega, by omega, h _ ((Kp.refl _ _).updIn List.mem_cons_self (NoT.lst ha)) upd_same⟩
end
end WM
set_option Elab.async false
set_option linter.all false
set_option maxRecDepth 100000
set_option maxHeartbeats 2000000
namespace WM
open PySem PySem.Spec PyProof.Rows L2
/-! ### loops -/
def kFor (J : It) (g : TG) (tb : TS) (N : L2.St → Hp → Prop) (R : VK) (B C : L2.St → Hp → Prop) (σ : L2.St) (H1 : Hp) : Prop :=
  ∃ W : Nat → Nat → L2.St → Hp → Prop, (∃ m, W 0 m σ H1) ∧ ∀ i m σ H, W i m σ H →
    (J.stop i H ∧ N σ H) ∨ (J.go i H ∧ ∃ N' : L2.St → Hp → Prop, (∀ σ' H', N' σ' H' → ∃ m', m' < m ∧ W (i + 1) m' σ' H') ∧ ∀ x H', J.yld i H x H' → g x σ H' fun σ2 H2 => Run tb N' R N N' σ2 H2)
def kIL (K : PySem.W.Frag) (G : It → Hp → Prop) : VK := fun x H => ∃ a, x = .ref a ∧ (∃ xs, SqL K H a xs) ∧ G (Itl K a) H
def kIT (K : PySem.W.Frag) (G : It → Hp → Prop) : VK := fun x H => ∃ a, x = .ref a ∧ (∃ xs, SqT K H a xs) ∧ G (Itt K a) H
def kR1 (G : It → Hp → Prop) (vs : List V) (H : Hp) : Prop := ∃ j : Int, vs = [.int j] ∧ -(2 ^ 62) ≤ j ∧ j < 2 ^ 62 ∧ G (Itr 0 j.toNat) H
def kR2 (G : It → Hp → Prop) (vs : List V) (H : Hp) : Prop := ∃ i j : Int, vs = [.int i, .int j] ∧ (-(2 ^ 62) ≤ i ∧ i < 2 ^ 62 ∧ -(2 ^ 62) ≤ j ∧ j < 2 ^ 62) ∧ G (Itr i (j - i).toNat) H
def kEn (K : PySem.W.Frag) (G : It → Hp → Prop) (vs : List V) (H : Hp) : Prop := ∃ a xs, vs = [.ref a] ∧ SqL K H a xs ∧ G (Ite K a) H
section
variable {K : PySem.W.Frag} {σ : L2.St} {H : Hp} {te : TE} {tb : TS} {tas : TA} {N B C : L2.St → Hp → Prop} {R : VK} {a : Addr} {g : TG} {wi : TI} {xs : List V} {G : It → Hp → Prop}
theorem x_for (h : wi σ H fun J H1 => kFor J g tb N R B C σ H1) : Run (tFor wi g tb) N R B C σ H := h
theorem x_iL (h : te σ H (kIL K G)) : iList K te σ H G := h
theorem x_kIL (ha : SqL K H a xs) (h : G (Itl K a) H) : kIL K G (.ref a) H := ⟨a, rfl, ⟨xs, ha⟩, h⟩
theorem x_iT (h : te σ H (kIT K G)) : iTup K te σ H G := h
theorem x_kIT (ha : SqT K H a xs) (h : G (Itt K a) H) : kIT K G (.ref a) H := ⟨a, rfl, ⟨xs, ha⟩, h⟩
theorem x_iR1 (h : tas σ H (kR1 G)) : iRng1 tas σ H G := h
theorem x_kR1 {j : Int} (h1 : -1000000 ≤ j) (h2 : j ≤ 1000000) (h : G (Itr 0 j.toNat) H) : kR1 G [.int j] H := ⟨j, rfl, by omega, by omega, h⟩
theorem x_iR2 (h : tas σ H (kR2 G)) : iRng2 tas σ H G := h
theorem x_kR2 {i j : Int} (h1 : -1000000 ≤ i) (h2 : i ≤ 1000000) (h3 : -1000000 ≤ j) (h4 : j ≤ 1000000) (h : G (Itr i (j - i).toNat) H) : kR2 G [.int i, .int j] H := ⟨i, j, rfl, ⟨by omega, by omega, by omega, by omega⟩, h⟩
theorem x_iE (h : tas σ H (kEn K G)) : iEnum K tas σ H G := h
theorem x_kE (ha : SqL K H a xs) (h : G (Ite K a) H) : kEn K G [.ref a] H := ⟨a, xs, rfl, ha, h⟩
theorem k_forL (Pv : Nat → L2.St → Hp → Prop) (h0 : Pv 0 σ H) (hl : ∀ i σ H, i ≤ xs.length → Pv i σ H → SqL K H a xs)
    (hs : ∀ i x σ H, xs[i]? = some x → Pv i σ H → g x σ H fun σ2 H2 => Run tb (Pv (i + 1)) R N (Pv (i + 1)) σ2 H2) (hd : ∀ σ H, Pv xs.length σ H → N σ H) : kFor (Itl K a) g tb N R B C σ H :=
  for_list (D := { nx := N, rt := R, bk := B, ct := C }) Pv h0 hl hs hd
theorem k_forT (Pv : Nat → L2.St → Hp → Prop) (h0 : Pv 0 σ H) (hl : ∀ i σ H, i ≤ xs.length → Pv i σ H → SqT K H a xs)
    (hs : ∀ i x σ H, xs[i]? = some x → Pv i σ H → g x σ H fun σ2 H2 => Run tb (Pv (i + 1)) R N (Pv (i + 1)) σ2 H2) (hd : ∀ σ H, Pv xs.length σ H → N σ H) : kFor (Itt K a) g tb N R B C σ H :=
  for_tup (D := { nx := N, rt := R, bk := B, ct := C }) Pv h0 hl hs hd
theorem k_forR {lo : Int} {n : Nat} (Pv : Nat → L2.St → Hp → Prop) (h0 : Pv 0 σ H)
    (hs : ∀ (i : Nat) σ H, i < n → Pv i σ H → g (.int (lo + i)) σ H fun σ2 H2 => Run tb (Pv (i + 1)) R N (Pv (i + 1)) σ2 H2) (hd : ∀ σ H, Pv n σ H → N σ H) : kFor (Itr lo n) g tb N R B C σ H :=
  for_range (D := { nx := N, rt := R, bk := B, ct := C }) Pv h0 hs hd
theorem k_forE (Pv : Nat → L2.St → Hp → Prop) (h0 : Pv 0 σ H) (hl : ∀ i σ H, i ≤ xs.length → Pv i σ H → SqL K H a xs)
    (hs : ∀ (i : Nat) x σ H T H', xs[i]? = some x → Pv i σ H → Kp [] H H' → H T = none → H' T = some (.tup [.int (i : Nat), x]) → g (.ref T) σ H' fun σ2 H2 => Run tb (Pv (i + 1)) R N (Pv (i + 1)) σ2 H2) (hd : ∀ σ H, Pv xs.length σ H → N σ H) : kFor (Ite K a) g tb N R B C σ H := by
  refine for_it (walk_enum (K := K) (a := a) (xs := xs)) (D := { nx := N, rt := R, bk := B, ct := C }) Pv h0 hl (fun i x σ H H' hi p y => ?_) hd
  obtain ⟨T, u, v, e1, e2, e3, e4, e5⟩ := y
  cases e4
  subst e1
  exact hs i v σ H T H' e5 p (by rw [e3]; exact (Kp.refl _ _).updNew e2) e2 (by rw [e3]; exact upd_same)
end
/-! ### while -/
def kWh (tt : TT) (tb : TS) (N : L2.St → Hp → Prop) (R : VK) (σ : L2.St) (H1 : Hp) : Prop := ∃ W : Nat → L2.St → Hp → Prop, (∃ m, W m σ H1) ∧ ∀ m σ H, W m σ H →
  tt σ H fun b H1 => kIf b (∃ N' : L2.St → Hp → Prop, (∀ σ' H', N' σ' H' → ∃ m', m' < m ∧ W m' σ' H') ∧ Run tb N' R N N' σ H1) (N σ H1)
theorem x_while {tt : TT} {tb : TS} {N B C : L2.St → Hp → Prop} {R : VK} {σ : L2.St} {H : Hp} (h : kWh tt tb N R σ H) : Run (tWhile tt tb) N R B C σ H := h
/-! ### comprehensions -/
def kLc (J : It) (g : TG) (tt : TT) (te : TE) (vs : List Nat) (σ : L2.St) (Q : VK) (H1 : Hp) : Prop := ∀ D, H1 D = none → ∃ W : Nat → Nat → Hp → Prop, (∃ m, W 0 m (upd H1 D (.lst []))) ∧ ∀ i m H, W i m H →
  (J.stop i H ∧ Q (.ref D) H) ∨ (J.go i H ∧ ∃ Nx : Hp → Prop, (∀ H', Nx H' → ∃ m', m' < m ∧ W (i + 1) m' H') ∧ ∀ x H', J.yld i H x H' → g x (wipe σ vs) H' fun σ2 H2 => wipe σ2 vs = wipe σ vs ∧ tt σ2 H2 fun b H3 =>
    if b = true then te σ2 H3 fun y H4 => ∃ acc, H4 D = some (.lst acc) ∧ acc.length < sizeLine ∧ Nx (upd H4 D (.lst (acc ++ [y]))) else Nx H3)
/-- between two turns: all but fp is kept, the list so far stands at D -/
def PvLc (fp : List Addr) (H : Hp) (D : Addr) (n : Nat) (P : Nat → List V → Hp → Prop) (i : Nat) (H' : Hp) : Prop := i ≤ n ∧ ∃ ys, Kp fp H H' ∧ H' D = some (.lst ys) ∧ ys.length ≤ i ∧ P i ys H'
/-- the element of a turn -/
def kEl (D : Addr) (Pn : Hp → Prop) : VK := fun y H4 => ∃ acc, H4 D = some (.lst acc) ∧ acc.length < sizeLine ∧ Pn (upd H4 D (.lst (acc ++ [y])))
def kWp (vs : List Nat) (σ : L2.St) (G : L2.St → Hp → Prop) (σ2 : L2.St) (H3 : Hp) : Prop := wipe σ2 vs = wipe σ vs ∧ G σ2 H3
section
variable {K : PySem.W.Frag} {σ : L2.St} {H : Hp} {te : TE} {tt : TT} {g : TG} {wi : TI} {vs : List Nat} {Q : VK} {J : It} {n : Nat} {Gd : Hp → Prop} {Y : Nat → Hp → V → Hp → Prop}
theorem x_lc (h : wi σ H fun J H1 => kLc J g tt te vs σ Q H1) : tLc wi g tt te vs σ H Q := h
theorem x_wp {G : L2.St → Hp → Prop} {σ0 σ2 : L2.St} (e : wipe σ2 vs = wipe σ0 vs) (h : G σ2 H) : kWp vs σ0 G σ2 H := ⟨e, h⟩
theorem x_yes {Qb : Bool → Hp → Prop} (h : Qb true H) : tYes σ H Qb := h
theorem x_el {fp : List Addr} {H0 : Hp} {D : Addr} {ys : List V} {P : Nat → List V → Hp → Prop} {i : Nat} {y : V} (hD : H0 D = none) (hi : i < n) (hn : n ≤ 100000) (l : ys.length ≤ i) (k : Kp fp H0 H) (d : H D = some (.lst ys))
    (h : ∀ H6, Kp [D] H H6 → H6 D = some (.lst (ys ++ [y])) → P (i + 1) (ys ++ [y]) H6) : kEl D (PvLc fp H0 D n P (i + 1)) y H :=
  ⟨ys, d, Nat.lt_of_lt_of_le (show ys.length < 100000 by omega) (by decide), by omega, ys ++ [y], k.updFree hD, upd_same, by rw [List.length_append]; exact Nat.add_le_add_right l 1, h _ ((Kp.refl _ _).updIn List.mem_cons_self (NoT.lst d)) upd_same⟩
theorem x_sk {fp : List Addr} {H0 : Hp} {D : Addr} {ys : List V} {P : Nat → List V → Hp → Prop} {i : Nat} (hi : i < n) (l : ys.length ≤ i) (k : Kp fp H0 H) (d : H D = some (.lst ys)) (h : P (i + 1) ys H) : PvLc fp H0 D n P (i + 1) H :=
  ⟨by omega, ys, k, d, by omega, h⟩
theorem k_lc (w : Walk J n Gd Y) (fp : List Addr) (P : Nat → List V → Hp → Prop)
    (h0 : ∀ D H', H D = none → Kp [] H H' → H' D = some (.lst []) → P 0 [] H') (hG : ∀ i ys H', i ≤ n → Kp fp H H' → P i ys H' → Gd H')
    (hs : ∀ i x ys D H1 H2, i < n → H D = none → Kp fp H H1 → H1 D = some (.lst ys) → ys.length ≤ i → P i ys H1 → Y i H1 x H2 →
      g x (wipe σ vs) H2 (kWp vs σ fun σ2 H3 => tt σ2 H3 fun b H4 => kIf b (te σ2 H4 (kEl D (PvLc fp H D n P (i + 1)))) (PvLc fp H D n P (i + 1) H4)))
    (hd : ∀ D ys H', H D = none → Kp fp H H' → H' D = some (.lst ys) → ys.length ≤ n → P n ys H' → Q (.ref D) H') : kLc J g tt te vs σ Q H := by
  intro D hD
  refine lc_it w (PvLc fp H D n P) ?_ ?_ ?_ ?_
  · have k0 : Kp [] H (upd H D (.lst [])) := (Kp.refl _ _).updNew hD
    exact ⟨Nat.zero_le _, [], k0.nil, upd_same, Nat.le_refl _, h0 D _ hD k0 upd_same⟩
  · rintro i H' hi ⟨_, ys, k, _, _, p⟩
    exact hG i ys H' hi k p
  · rintro i x H1 H2 hi ⟨_, ys, k, d, l, p⟩ y
    exact hs i x ys D H1 H2 hi hD k d l p y
  · rintro H' ⟨_, ys, k, d, l, p⟩
    exact hd D ys H' hD k d l p
end
/-! ### the rules that read the written part, with its name told -/
section
variable {X : Cx} {K : PySem.W.Frag} {e o : Expr} {es : List Expr} {ta to te : TE} {t : TA} {pos apos cpos : Pos} {f : Str}
theorem ixK (h : X.K = K := by rfl) : IxR X (rIx K) := h ▸ ix_seq
theorem eqK (hu : X.A.units + 64 < cLine) (h : X.K = K := by rfl) : OpR X (compareOp .Eq) (rEqA K) := h ▸ op_eqA hu
theorem neK (hu : X.A.units + 64 < cLine) (h : X.K = K := by rfl) : OpR X (compareOp .NotEq) (rNeA K) := h ▸ op_neA hu
theorem inK (h : X.K = K := by rfl) : OpR X (compareOp .In) (rIn K false) := h ▸ op_in_seq
theorem niK (h : X.K = K := by rfl) : OpR X (compareOp .NotIn) (rIn K true) := h ▸ op_notIn_seq
theorem slK (h : X.K = K := by rfl) : SlR X (rSlA K) := h ▸ sl_any
theorem lenK (h : X.K = K := by rfl) : CallR X (.builtin "len") (rLenA K) := h ▸ call_lenA
theorem listK (h : X.K = K := by rfl) : CallR X (.type "list") (rListA K) := h ▸ call_listA
theorem isiK (h : X.K = K := by rfl) : CallR X (.builtin "isinstance") (rIsi K) := h ▸ call_isi
theorem isVK (h : X.K = K := by rfl) : CallR X (.builtin "isinstance") (rIsV K) := h ▸ call_isV
theorem cntK (h : X.K = K := by rfl) : MtR X "list.count" (rCntF K) := h ▸ mt_countF
theorem idxK (h : X.K = K := by rfl) : MtR X "list.index" (rIndex K) := h ▸ mt_index
theorem fldK (he : PE X e ta) (hb : attributeBase e f X.env (eval e X.env) = eval e X.env) (h : X.K = K := by rfl) : PE X (.Attribute e f pos) (tFld K ta f) := h ▸ pe_fld he hb
theorem xvK (he : PE X e te) (hb : attributeBase e f X.env (eval e X.env) = eval e X.env := by rfl) (h : X.K = K := by rfl) : PE X (.Attribute e f pos) (tXv K f te) := h ▸ pe_xv he hb
theorem sfldK {value : Expr} {tv : TE} {pos' : Pos} (ha : PE X o ta) (hv : PE X value tv) (hs : swapsWith value (some (.Attribute o f pos')) pos.line X.env = pure false) (h : X.K = K := by rfl) : PS X (.Assign [.Attribute o f pos'] value pos) (sFld K ta tv f) := h ▸ ps_fld ha hv hs
theorem bm0K {T id : String} {nm : Str} {r : V → List V → Hp → VK → Prop} (pa : PlainAttrs T) (slot : Slot T nm id) (hty : typeOf (.builtin id) = pure (.type "method_descriptor")) (hm : MtR X id r) (ho : PE X o to)
    (hbase : attributeBase o nm X.env (eval o X.env) = eval o X.env := by rfl) (hline : (apos.endLine == cpos.line) = true := by rfl) (h : X.K = K := by rfl) : PE X (.Call (.Attribute o nm apos) [] [] cpos) (tBM0 K T r to) := h ▸ pe_bm0 pa slot hty hm ho hbase hline
theorem bmK {T id : String} {nm : Str} {r : V → List V → Hp → VK → Prop} (pa : PlainAttrs T) (slot : Slot T nm id) (hty : typeOf (.builtin id) = pure (.type "method_descriptor")) (hm : MtR X id r) (ho : PE X o to) (ha : PA X (e :: es) t)
    (hbase : attributeBase o nm X.env (eval o X.env) = eval o X.env := by rfl)
    (hfew : ((backTo cpos (starEach (e :: es) X.env)).all (fun x => !x.1) && (backToKw cpos (keywordEach [] X.env)).all (fun x => x.1.isSome)
      && decide ((e :: es).length + ([] : List Keyword).length + (if ([] : List Keyword).isEmpty then 0 else 1) < 30)) = true := by rfl)
    (hline : (apos.endLine == cpos.line) = true := by rfl) (hs : starEach (e :: es) X.env = (false, eval e X.env) :: starEach es X.env := by rfl) (hplain : (backTo cpos (starEach es X.env)).any (·.1) = false := by rfl) (h : X.K = K := by rfl) :
    PE X (.Call (.Attribute o nm apos) (e :: es) [] cpos) (tBM K T r to t) := h ▸ pe_bm pa slot hty hm ho ha hbase hfew hline hs hplain
theorem listIt {tg l : Expr} {tl : TE} (hl : PE X l tl) (h : X.K = K := by rfl) : PI X tg l (iList K tl) := h ▸ pi_list hl
theorem tupIt {tg l : Expr} {tl : TE} (hl : PE X l tl) (h : X.K = K := by rfl) : PI X tg l (iTup K tl) := h ▸ pi_tup hl
theorem enumIt {p tpos : Pos} {elts : List Expr} {kk : Nat} (hg : Gl X "enumerate") (hm : X.mg "enumerate" = none) (ha : PA X [e] t) (hs : starEach [e] X.env = [(false, eval e X.env)] := by rfl) (h : X.K = K := by rfl) :
    PI X (.Tuple elts kk tpos) (.Call (.Name "enumerate" p) [e] [] pos) (iEnum K t) := h ▸ pi_enum hg hm ha hs
theorem gtupK {k : Nat} {gs : TGs} {n : Nat} (hc : X.calm = true) (hg : PGs X es gs) (hn : (assignEach es X.env).length = n := by rfl) (hst : (assignEach es X.env).findIdx? (·.1) = none := by rfl) (h : X.K = K := by rfl) : PG X (.Tuple es k pos) (gTup K n gs) := h ▸ pg_tup hc hg hn hst
end
end WM
set_option Elab.async false
set_option linter.all false
set_option maxRecDepth 100000
set_option maxHeartbeats 2000000
namespace WM
open PySem PySem.Spec PyProof.Rows L2 HotX
/-! ### an exception whose context is p1's, that one's context None -/
def Zx (p1 : Addr × Obj) (cls : Value) (d : Option Addr) : Obj → Prop := fun o => o.cls = cls ∧ o.dict = d ∧ ∀ fv : Array Value, o.data = .fields fv → fv[2]? = some (.ref p1.1)
theorem Zx.zc {p1 : Addr × Obj} {cls : Value} {d : Option Addr} {o : Obj} (h : Zx p1 cls d o) : Zc cls d o := ⟨h.1, h.2.1⟩
theorem Zx.steady {p1 : Addr × Obj} {cls : Value} {d : Option Addr} : PXN.Steady1 (Zx p1 cls d) := fun o v h => by
  refine ⟨PXN.steady_cls o v h.1, PXN.steady_dict o v h.2.1, fun fv e => ?_⟩
  obtain ⟨c, dd, dt, sl⟩ := o
  cases dt with
  | fields f0 =>
    have e2 : f0.setIfInBounds 1 v = fv := Data.fields.inj e
    rw [← e2, set_other (by decide) (h.2.2 f0 rfl)]
  | _ => first | exact Data.noConfusion e | cases e
/-- such an exception in the air of X; p1 stays where it is -/
def XEx (X : Cx) (p1 : Addr × Obj) (W : WX) (u : Value) (s' : Shared) : Prop :=
  ∃ (a : Addr) (B : Heap) (sI : Shared) (pins : List (Addr × Obj)) (σ : L2.St) (H : Hp) (cls : Value) (d : Option Addr), u = .ref a ∧ Inv X pins σ H sI ∧ (∀ b o, sI.heap.get? b = some o → b ∉ frs X.stack → B.get? b = some o) ∧ sI.heap.UpToSlots s'.heap ∧
    Sky B X.stack a (Zx p1 cls d) X.env.locals s'.heap ∧ H a = none ∧ s'.os = sI.os ∧ AllBare s'.gens ∧ p1 ∈ X.pn ++ pins ∧ W cls d σ H
def TakesX (X : Cx) (p1 : Addr × Obj) (W : WX) : Prop := ∀ u s', XEx X p1 W u s' → X.xe u s'
/-! ### an exception in the air, told piece by piece -/
structure Air (X : Cx) (p1 : Addr × Obj) (pins : List (Addr × Obj)) (σ : L2.St) (H : Hp) (a : Addr) (cls : Value) (d : Option Addr) (fl : Value) (B : Heap) (sI s : Shared) : Prop where
  inv : Inv X pins σ H sI
  nb : ∀ b o, sI.heap.get? b = some o → b ∉ frs X.stack → B.get? b = some o
  up : sI.heap.UpToSlots s.heap
  st : B.StaysIn s.heap
  hn : B.get? a = none
  ff : s.heap.FunFrames B X.stack
  tr : HandSPX.TracedZ s.heap B a (Zx p1 cls d) fl
  p1m : p1 ∈ X.pn ++ pins
  na : H a = none
  os : s.os = sI.os
  ag : AllBare s.gens
section
variable {X : Cx} {W : WX} {p1 : Addr × Obj} {pins : List (Addr × Obj)} {σ : L2.St} {H : Hp} {a : Addr} {cls : Value} {d : Option Addr} {fl : Value} {B : Heap} {sI s : Shared}
theorem weaken {h : Heap} {fl : Value} (x : HandSPX.TracedZ h B a (Zx p1 cls d) fl) : HandSPX.TracedZ h B a (Zc cls d) fl := by
  obtain ⟨oe, vs, T, oT, ts, he, hz, r⟩ := x
  exact ⟨oe, vs, T, oT, ts, he, hz.zc, r⟩
theorem Air.xe (x : Air X p1 pins σ H a cls d (rawInt X.env.locals) B sI s) (w : W cls d σ H) : L2.XE X W (.ref a) s :=
  ⟨a, B, sI, pins, σ, H, cls, d, rfl, x.inv, x.nb, x.up, .inr (.inr ⟨x.st, x.hn, x.ff, weaken x.tr⟩), x.na, x.os, x.ag, w⟩
/-- the flight is set -/
theorem Air.fly {M : Model} {A : Around} {E : Value → Shared → Prop} {fr : Option Addr} {Q : Unit → Shared → Prop} (x : Air X p1 pins σ H a cls d fl B sI s)
    (h : ∀ s', Air X p1 pins σ H a cls d (fr.elim Value.none fun f => rawInt f) B sI s' → Q () s') : wpAny M A (setFlight (.ref a) fr) Q E s :=
  HandSPX.setFlight_anyZ x.st x.ff x.tr fun h' k1 k2 k3 k4 => h _ ⟨x.inv, x.nb, x.up.trans k4, k1, x.hn, k2, k3, x.p1m, x.na, x.os, x.ag⟩
theorem Air.again {M : Model} {A : Around} {E : Value → Shared → Prop} {L : Addr} {Q : Unit → Shared → Prop} (hf : X.env.frame = some L) (x : Air X p1 pins σ H a cls d (rawInt L) B sI s) (h : Q () s) : wpAny M A (noteFrame (.ref a) X.env) Q E s :=
  HandSPX.againZ hf x.tr h
/-- an exception comes: the frame notes it -/
theorem air_of {M : Model} {A : Around} {E : Value → Shared → Prop} {u : Value} {Q : Unit → Shared → Prop} (hs : X.stack = X.env :: X.outer) (hfr : A.frames = some (X.env :: X.outer)) (hf : X.env.frame = some X.env.locals) (x : XEx X p1 W u s)
    (h : ∀ a B sI pins σ H cls d s', u = .ref a → W cls d σ H → Air X p1 pins σ H a cls d (rawInt X.env.locals) B sI s' → Q () s') : wpAny M A (noteFrame u X.env) Q E s := by
  obtain ⟨a, B, sI, pins, σ, H, cls, d, rfl, J, nb, up, sky, na, os, ag, pm, w⟩ := x
  have mk : ∀ h1, HandSPX.HeldZ B X.stack a (Zx p1 cls d) X.env.locals h1 → s.heap.UpToSlots h1 → Q () { s with heap := h1 } := fun h1 ⟨k1, k2, k3, k4⟩ u1 =>
    h a B sI pins σ H cls d _ rfl w ⟨J, nb, up.trans u1, k1, k2, k3, k4, pm, na, os, ag⟩
  rw [hs] at sky mk
  rcases sky with ⟨hB, hn, hl, oe, vs, he, hz, hd, h1⟩ | fl | hh
  · exact PXN.look_newZ Zx.steady hfr hl hf he hB hn hd h1 hz mk
  · exact PXN.looks_onZ Zx.steady hfr hf fl mk
  · exact HandSPX.againZ hf hh.2.2.2 (mk s.heap hh (Heap.UpToSlots.refl _))
/-- .. its records pinned -/
structure Pnd (X : Cx) (p1 : Addr × Obj) (pins : List (Addr × Obj)) (σ : L2.St) (H : Hp) (a T : Addr) (oe oT : Obj) (vs ts : Array Value) (cls : Value) (d : Option Addr) (fl : Value) (s : Shared) : Prop where
  inv : Inv X ((a, oe) :: (T, oT) :: pins) σ H s
  hz : Zx p1 cls d oe
  hd : oe.data = .fields vs
  h1 : vs[1]? = some (.ref T)
  ne : T ≠ a
  dT : oT.data = .fields ts
  h3 : ts[3]? = some fl
  h0 : ∀ c o, X.s_0.heap.get? c = some o → c ≠ a ∧ c ≠ T
  hp : ∀ p ∈ X.pn ++ pins, p.1 ≠ a ∧ p.1 ≠ T
  p1m : p1 ∈ X.pn ++ pins
theorem Air.pnd (hs : X.stack = X.env :: X.outer) (hf : X.env.frame = some X.env.locals) (hex : X.ex = []) (x : Air X p1 pins σ H a cls d fl B sI s) : ∃ T oe oT vs ts, Pnd X p1 pins σ H a T oe oT vs ts cls d fl s := by
  obtain ⟨oe, vs, T, oT, ts, he, hz, hd, h1, hnT, hTe, hT, hdT, h3⟩ := x.tr
  have J : Inv X pins σ H s := x.inv.landed x.nb x.st x.up x.os x.ag
  have nfr : ∀ (b : Addr) (o : Obj) (fv : Array Value), s.heap.get? b = some o → o.data = .fields fv → b ∉ frs X.stack := fun b o fv e dd hm => by
    obtain ⟨_, o', e', hnf⟩ := x.ff.mem hm
    have eo : o = o' := Option.some.inj (e.symm.trans e')
    exact hnf _ (eo ▸ dd)
  have fa := nfr a oe vs he hd
  have fT := nfr T oT ts hT hdT
  have mL : X.env.locals ∈ frs X.stack := by
    rw [hs]
    exact List.mem_filterMap.mpr ⟨X.env, List.mem_cons_self, hf⟩
  have mF : ∀ b, b ∈ X.fs → b ∈ frs X.stack := fun b hm => by
    obtain ⟨e, he', q⟩ := List.mem_filterMap.mp hm
    rw [hs]
    exact List.mem_filterMap.mpr ⟨e, List.mem_cons_of_mem _ he', q⟩
  have far : ∀ b o, sI.heap.get? b = some o → b ≠ a ∧ b ≠ T := fun b o e => by
    by_cases hb : b ∈ frs X.stack
    · exact ⟨fun z => fa (z ▸ hb), fun z => fT (z ▸ hb)⟩
    · have q := x.nb b o e hb
      refine ⟨fun z => ?_, fun z => ?_⟩
      · rw [z, x.hn] at q
        cases q
      · rw [z, hnT] at q
        cases q
  have nT : H T = none := (x.inv.inGround x.nb).gone hnT
  refine ⟨T, oe, oT, vs, ts, J.pins_of fun p hp => ?_, hz, hd, h1, hTe, hdT, h3, fun c o e => ?_, fun p hp => far p.1 p.2 (x.inv.pin p hp).1, x.p1m⟩
  · rcases List.mem_cons.mp hp with rfl | z
    · exact ⟨he, x.na, fun q => fa (show a ∈ _ from (show a = X.env.locals from q) ▸ mL), fun q => fa (mF _ q), fun v q => by
        have q' : oe.data = .cell v := q
        rw [hd] at q'
        cases q'⟩
    · rcases List.mem_cons.mp z with rfl | z
      · exact ⟨hT, nT, fun q => fT (show T ∈ _ from (show T = X.env.locals from q) ▸ mL), fun q => fT (mF _ q), fun v q => by
          have q' : oT.data = .cell v := q
          rw [hdT] at q'
          cases q'⟩
      · exact J.pin p (List.mem_append_right _ z)
  · obtain ⟨o', q⟩ := x.inv.base.there c o e (by rw [hex]; simp)
    exact far c o' q
theorem Pnd.air {T : Addr} {oe oT : Obj} {vs ts : Array Value} (x : Pnd X p1 pins σ H a T oe oT vs ts cls d fl s) : ∃ B sI, Air X p1 pins σ H a cls d fl B sI s := by
  have pa := x.inv.pin (a, oe) (List.mem_append_right _ List.mem_cons_self)
  have pT := x.inv.pin (T, oT) (List.mem_append_right _ (List.mem_cons_of_mem _ List.mem_cons_self))
  have ga : s.heap.get? a = some oe := pa.1
  have gT : s.heap.get? T = some oT := pT.1
  have J : Inv X pins σ H s := x.inv.pins_of fun p hp => x.inv.pin p (List.mem_append_right _ (List.mem_cons_of_mem _ (List.mem_cons_of_mem _ hp)))
  obtain ⟨G, g1, g2⟩ := restrict s.heap fun b => !(decide (b = a) || decide (b = T))
  have gIn : ∀ b o, G.get? b = some o → s.heap.get? b = some o ∧ b ≠ a ∧ b ≠ T := fun b o e => by
    by_cases hb : b = a ∨ b = T
    · have q : (!(decide (b = a) || decide (b = T))) = false := by
        rcases hb with z | z <;> simp [z]
      rw [g2 b q] at e
      cases e
    · have hb1 : b ≠ a := fun z => hb (.inl z)
      have hb2 : b ≠ T := fun z => hb (.inr z)
      rw [g1 b (by simp [hb1, hb2])] at e
      exact ⟨e, hb1, hb2⟩
  have gOf : ∀ b o, b ≠ a → b ≠ T → s.heap.get? b = some o → G.get? b = some o := fun b o k1 k2 e => (g1 b (by simp [k1, k2])).trans e
  have I6 : Inv X pins σ H { s with heap := G } := J.less (fun b o e => (gIn b o e).1) gOf ⟨oe, vs, ga, x.hd⟩ ⟨oT, ts, gT, x.dT⟩ pa.2.1 pT.2.1 x.h0 x.hp
  have Bin : ∀ b o, (PySem.W.hideAll G (frs X.stack)).get? b = some o → s.heap.get? b = some o ∧ b ≠ a ∧ b ≠ T := fun b o e => gIn b o (PySem.W.of_hideAll _ e)
  have Bno : ∀ b, (b = a ∨ b = T) → (PySem.W.hideAll G (frs X.stack)).get? b = none := fun b hb => by
    cases q : (PySem.W.hideAll G (frs X.stack)).get? b with
    | none => rfl
    | some o =>
      obtain ⟨_, n1, n2⟩ := Bin b o q
      rcases hb with z | z
      · exact absurd z n1
      · exact absurd z n2
  refine ⟨PySem.W.hideAll G (frs X.stack), { s with heap := G }, I6, fun b o e hb => PySem.W.hideAll_get _ e hb, Heap.UpToSlots.of_keeps fun b o e => (gIn b o e).1, fun b o e => (Bin b o e).1, Bno a (.inl rfl), ?_,
    ⟨oe, vs, T, oT, ts, ga, x.hz, x.hd, x.h1, Bno T (.inr rfl), x.ne, gT, x.dT, x.h3⟩, x.p1m, pa.2.1, rfl, J.bare⟩
  exact funFrames_none J.stack fun b hb => PySem.W.hideAll_none _ hb
end
/-! ### the finally suite of an exception in the air -/
section
variable {X : Cx} {p1 : Addr × Obj} {Wout : WX} {f₀ : Stmt} {fs : List Stmt} {tfs : TS}
/-- the handled exception and its context, pinned: what the finally suite may lean on -/
structure Hot2 (X : Cx) : Prop where
  ex : ∃ (a x1 : Addr) (oe o1 : Obj) (vs v1 : Array Value), X.A.handled = some (.ref a) ∧ (a, oe) ∈ X.pn ∧ (x1, o1) ∈ X.pn ∧ x1 ≠ a ∧ oe.data = .fields vs ∧ vs[2]? = some (.ref x1) ∧ o1.data = .fields v1 ∧ v1[2]? = some .none
theorem fin_in {pins : List (Addr × Obj)} {D : Ends} {u : Value} {s' : Shared} (hs : X.stack = X.env :: X.outer) (hf : X.env.frame = some X.env.locals) (hex : X.ex = []) (ok : X.Ok) (tk : L2.Takes X Wout)
    (h1n : ∃ v1, p1.2.data = .fields v1 ∧ v1[2]? = some .none) (hsu : ∀ (a : Addr) (pn : List (Addr × Obj)), Hot2 (X.suite a pn) → PSs (X.suite a pn) (f₀ :: fs) tfs) (x : XEx X p1 (wFin tfs Wout) u s') : FinallyRaised X.prog X.w X.A X.xe X.env (f₀ :: fs) (SP X pins D) u s' := by
  have hfr : X.A.frames = some (X.env :: X.outer) := ok.frames.trans (congrArg some hs)
  refine ⟨?_, air_of hs hfr hf x fun a B sI pq σ H cls d s1 eu w ai => ?_⟩
  · obtain ⟨a, _, _, _, _, _, _, _, rfl, _⟩ := x
    exact ref_ne_byPass a
  subst eu
  refine ai.fly (fr := none) fun s2 ai2 => ?_
  obtain ⟨T, oe, oT, vs, ts, P⟩ := ai2.pnd hs hf hex
  have S3 : Inv (X.suite a ((a, oe) :: (T, oT) :: (X.pn ++ pq))) [] σ H s2 := ⟨P.inv.ok.suite _ _, P.inv.os, P.inv.bare, P.inv.base, P.inv.loc, P.inv.cell, P.inv.free, P.inv.freeC, fun p hp => P.inv.pin p (by
    rw [List.append_nil] at hp
    rcases List.mem_cons.mp hp with z | z
    · rw [z]
      exact List.mem_append_right _ List.mem_cons_self
    · rcases List.mem_cons.mp z with z | z
      · rw [z]
        exact List.mem_append_right _ (List.mem_cons_of_mem _ List.mem_cons_self)
      · rcases List.mem_append.mp z with z | z
        · exact List.mem_append_left _ z
        · exact List.mem_append_right _ (List.mem_cons_of_mem _ (List.mem_cons_of_mem _ z))), P.inv.hok, P.inv.len⟩
  have hot2 : Hot2 (X.suite a ((a, oe) :: (T, oT) :: (X.pn ++ pq))) := by
    obtain ⟨v1, d1, c1⟩ := h1n
    exact ⟨a, p1.1, oe, p1.2, vs, v1, rfl, List.mem_cons_self, List.mem_cons_of_mem _ (List.mem_cons_of_mem _ P.p1m), (P.hp p1 P.p1m).1, P.hd, P.hz.2.2 vs P.hd, d1, c1⟩
  refine wpAny_mono ((hsu a ((a, oe) :: (T, oT) :: (X.pn ++ pq)) hot2).run [] s2 σ H { nx := fun σ2 H2 => Wout cls d σ2 H2, rt := fun _ _ => False } S3 w) (fun g s6 r => ?_) fun _ _ z => z.elim
  cases g with
  | ret u =>
    obtain ⟨_, _, _, _, _, q⟩ := r
    exact q.elim
  | brk =>
    obtain ⟨_, _, _, q⟩ := r
    exact q.elim
  | cont =>
    obtain ⟨_, _, _, q⟩ := r
    exact q.elim
  | next =>
    obtain ⟨σ6, H6, S6, q6⟩ := r
    have P6 : Pnd X p1 pq σ6 H6 a T oe oT vs ts cls d Value.none s6 := ⟨⟨ok, S6.os, S6.bare, S6.base, S6.loc, S6.cell, S6.free, S6.freeC, fun p hp => S6.pin p (List.mem_append_left _ (by
      rcases List.mem_append.mp hp with z | z
      · exact List.mem_cons_of_mem _ (List.mem_cons_of_mem _ (List.mem_append_left _ z))
      · rcases List.mem_cons.mp z with z | z
        · rw [z]
          exact List.mem_cons_self
        · rcases List.mem_cons.mp z with z | z
          · rw [z]
            exact List.mem_cons_of_mem _ List.mem_cons_self
          · exact List.mem_cons_of_mem _ (List.mem_cons_of_mem _ (List.mem_append_right _ z)))), S6.hok, S6.len⟩, P.hz, P.hd, P.h1, P.ne, P.dT, P.h3, P.h0, P.hp, P.p1m⟩
    have ga : s6.heap.get? a = some oe := (P6.inv.pin (a, oe) (List.mem_append_right _ List.mem_cons_self)).1
    obtain ⟨B6, sI6, ai6⟩ := P6.air
    show wpAny (model X.prog X.w) X.A (PySem.passOn "try.finally" (.ref a) X.env) (SP X pins D) X.xe s6
    unfold PySem.passOn
    refine wpAny_bind (wpAny_field ga P6.hd P6.h1 ?_)
    rw [if_neg (show ¬ ((Value.ref T == Value.none) = true) by simp)]
    have up : wpAny (model X.prog X.w) X.A (setFlight (.ref a) X.env.frame) (fun _ s7 => wpAny (model X.prog X.w) X.A (throw (.ref a) : Sem Flow) (SP X pins D) X.xe s7) X.xe s6 := by
      rw [hf]
      exact ai6.fly fun s7 ai7 => wpAny_throw (tk _ _ (ai7.xe q6))
    first
      | exact wpAny_bind (wpAny_pure (wpAny_bind up))
      | exact wpAny_bind up
end
end WM
set_option Elab.async false
set_option linter.all false
set_option maxRecDepth 100000
set_option maxHeartbeats 2000000
namespace WM
open PySem PySem.Spec PyProof.Rows L2 HotX
/-! ### try: body / except x as n: a suite that raises / finally: a suite -/
abbrev suiteF (X : Cx) (a : Addr) (pn : List (Addr × Obj)) (xe : Value → Shared → Prop) : Cx := { X with A := X.A.mark (some (.ref a)), calm := false, pn := pn, xe := xe }
def dead : Ends := { nx := fun _ _ => False, rt := fun _ _ => False }
/-- the wish of the suite's own error: n's slot is emptied behind it -/
def wGone (i : Nat) (W : WX) : WX := fun cls d σ H => W cls d (σ.set i none) H
def wAll (K : PySem.W.Frag) (c : Value) (i : Nat) (ts : WX → Addr → Value → Option Addr → TS) (Wf : WX) : WX := fun cls d σ H =>
  PySem.W.exmOne K cls c = some true ∧ ∀ a, H a = none → ts (wGone i Wf) a cls d dead (σ.set i (some (.ref a))) H
def tAllT (K : PySem.W.Frag) (c : Value) (i : Nat) (tb : WX → TS) (ts : WX → Addr → Value → Option Addr → TS) (tf tfs : TS) (Wout : WX) : TS := fun D σ H =>
  tb (wAll K c i ts (wFin tfs Wout)) { nx := fun σ1 H1 => tf D σ1 H1, rt := fun _ _ => False } σ H
section
variable {X : Cx} {x n : Str} {c : Value} {i : Nat} {body suite : List Stmt} {b₀ f₀ : Stmt} {fs : List Stmt} {np pos pos' : Pos} {tb : WX → TS} {ts : WX → Addr → Value → Option Addr → TS} {tf tfs : TS} {Wout : WX}
theorem ps_all (hs : X.stack = X.env :: X.outer) (hf : X.env.frame = some X.env.locals) (hex : X.ex = []) (hN : X.N.Nodup) (hi : X.N[i]? = some n) (hln : X.env.kindOf n = some .local) (hc : Names X x c) (tk : L2.Takes X Wout)
    (hb : ∀ (W : WX) (pn : List (Addr × Obj)) (xe : Value → Shared → Prop), L2N.Takes (X.tr pn xe) W → PassesOwn (model X.prog X.w) X.A X.env xe → PSs (X.tr pn xe) body (tb W))
    (hsu : ∀ (W : WX) (a : Addr) (oe : Obj) (cls : Value) (d : Option Addr) (pn : List (Addr × Obj)) (xe : Value → Shared → Prop), L2N.Zn cls d oe → (∃ vs, oe.data = .fields vs) → TakesX (suiteF X a ((a, oe) :: pn) xe) (a, oe) W → L2H.HotC (suiteF X a ((a, oe) :: pn) xe) →
      PSs (suiteF X a ((a, oe) :: pn) xe) (b₀ :: suite) (ts W a cls d))
    (hfin : PSs X.nox (f₀ :: fs) tf) (hfs : ∀ (a : Addr) (pn : List (Addr × Obj)), Hot2 (X.suite a pn) → PSs (X.suite a pn) (f₀ :: fs) tfs) :
    PS X (.Try body [.ExceptHandler (some (.Name x np)) (some n) (b₀ :: suite) pos'] [] (f₀ :: fs) pos) (tAllT X.K c i tb ts tf tfs Wout) := by
  refine ⟨fun pins s σ H D I h => wpAny_Try_except_finally ?_⟩
  have ok := I.ok
  have hfr : X.A.frames = some (X.env :: X.outer) := ok.frames.trans (congrArg some hs)
  refine wpAny_mono ((hb (wAll X.K c i ts (wFin tfs Wout)) (X.pn ++ pins) _ (fun u s' w => ?_) PassesOwn.looking).run [] s σ H { nx := fun σ1 H1 => tf D σ1 H1, rt := fun _ _ => False } (I.toTry _) h) (fun f s1 w => ?_) (fun _ _ z => z)
  · obtain ⟨a, B, sI, pq, σ', H', cls, d, rfl, J', nb, up, sky, na, os, ag, hb1, hyes⟩ := w
    have J : Inv X pins σ' H' sI := J'.ofTry ok
    refine L2N.Sky.land L2N.Zn.steady hfr hf (show Sky B (X.env :: X.outer) a (L2N.Zn cls d) X.env.locals s'.heap from hs ▸ sky) fun h3 fl3 up3 => ?_
    have J3 : Inv X pins σ' H' { s' with heap := h3 } := J.landed nb fl3.1 (up.trans up3) os ag
    obtain ⟨oe3, vs3, he3, hz3, hd3⟩ := fl3.there
    have nfr : a ∉ frs (X.env :: X.outer) := fun hm => by
      obtain ⟨_, o', e', hnf⟩ := fl3.2.2.1.mem hm
      have eo : oe3 = o' := Option.some.inj (he3.symm.trans e')
      exact hnf _ (eo ▸ hd3)
    have nL : a ≠ X.env.locals := fun z => nfr (List.mem_filterMap.mpr ⟨X.env, List.mem_cons_self, hf.trans (congrArg some z.symm)⟩)
    have nF : a ∉ X.fs := fun hm => by
      obtain ⟨e, he, q⟩ := List.mem_filterMap.mp hm
      exact nfr (List.mem_filterMap.mpr ⟨e, List.mem_cons_of_mem _ he, q⟩)
    have S3 := J3.suite he3 hd3 na nL nF
    refine wpAny_handleBy_cons (codeAny_handlers_test ?_) (fun q => nomatch q)
    have LT : PySem.W.Looks (model X.prog X.w) h3 (typeOf (.ref a)) cls := fun A Q E s k q => wpAny_typeOf_ref (k _ _ he3) (hz3.1.symm ▸ q)
    have LM := PySem.W.exm_one (M := model X.prog X.w) J3.kIn LT hb1
    have test : ∀ {Q : Value → Shared → Prop} {E : Value → Shared → Prop}, Q c { s' with heap := h3 } → wpAny (model X.prog X.w) (X.A.mark (some (.ref a))) (eval (.Name x np) X.env) Q E { s' with heap := h3 } := fun {Q E} q => by
      obtain ⟨hg, hdbg, hm | ⟨hm, hv, hnn⟩⟩ := hc
      · exact ld_glob (X := X.suite a ((a, oe3) :: (X.pn ++ pins))) S3 hg hm q hdbg
      · exact ld_blt (X := X.suite a ((a, oe3) :: (X.pn ++ pins))) S3 hg hm hv q hnn hdbg
    refine test (LM.here ?_)
    refine codeAny_handlers_suite_as (HandSPX.lands_againZ fl3 fun h4 fl4 up4 => ?_)
    have J4 : Inv X pins σ' H' { s' with heap := h4 } := J.landed nb fl4.1 ((up.trans up3).trans up4) os ag
    obtain ⟨oe4, vs4, he4, hz4, hd4⟩ := fl4.there
    have S4 := J4.suite he4 hd4 na nL nF
    refine store_ok (X := X.suite a ((a, oe4) :: (X.pn ++ pins))) (v := .ref a) S4 hN hi (.inl hln) rfl (fun s5 S5 => ?_) (.inr hln)
    have hot : ∀ xe, L2H.HotC (suiteF X a ((a, oe4) :: (X.pn ++ pins)) xe) := fun xe => ⟨(a, oe4), ⟨rfl, vs4, hd4, hz4.2.2 vs4 hd4⟩, List.mem_cons_self⟩
    have S5' : ∀ xe, Inv (suiteF X a ((a, oe4) :: (X.pn ++ pins)) xe) [] (σ'.set i (some (.ref a))) H' s5 := fun xe => Inv.unwish (X := suiteF X a ((a, oe4) :: (X.pn ++ pins)) xe) (E := fun _ _ => False) S5
    refine wpAny_mono ((hsu (wGone i (wFin tfs Wout)) a oe4 cls d (X.pn ++ pins) _ hz4 ⟨_, hd4⟩ (fun u6 s6 x6 => ?_) (hot _)).run [] s5 _ H' dead (S5' _) (hyes a na)) (fun f s6 w => ?_) (fun _ _ z => z)
    · -- the suite's own error
      have xX : XEx X (a, oe4) (wGone i (wFin tfs Wout)) u6 s6 := by
        obtain ⟨a2, B2, sI2, pn2, σ2, H2, cls2, d2, e2, I2, nb2, up2, sky2, na2, os2, ag2, _, w2⟩ := x6
        refine ⟨a2, B2, sI2, (a, oe4) :: pins, σ2, H2, cls2, d2, e2, ⟨ok, I2.os, I2.bare, I2.base, I2.loc, I2.cell, I2.free, I2.freeC, fun p hp => I2.pin p (List.mem_append_left _ ?_), I2.hok, I2.len⟩, nb2, up2, sky2, na2, os2, ag2, List.mem_append_right _ List.mem_cons_self, w2⟩
        rcases List.mem_append.mp hp with z | z
        · exact List.mem_cons_of_mem _ (List.mem_append_left _ z)
        · rcases List.mem_cons.mp z with z | z
          · rw [z]
            exact List.mem_cons_self
          · exact List.mem_cons_of_mem _ (List.mem_append_right _ z)
      refine air_of hs hfr hf xX fun a2 B2 sI2 pq2 σ2 H2 cls2 d2 s7 eu w2 ai => ?_
      subst eu
      obtain ⟨T, oe, oT, vs, tt, P⟩ := ai.pnd hs hf hex
      refine gone_ok P.inv hN hi hln fun s8 J8 => ?_
      have P8 : Pnd X (a, oe4) pq2 (σ2.set i none) H2 a2 T oe oT vs tt cls2 d2 (rawInt X.env.locals) s8 := ⟨J8, P.hz, P.hd, P.h1, P.ne, P.dT, P.h3, P.h0, P.hp, P.p1m⟩
      obtain ⟨B8, sI8, ai8⟩ := P8.air
      have ga : s8.heap.get? a2 = some oe := (J8.pin (a2, oe) (List.mem_append_right _ List.mem_cons_self)).1
      unfold PySem.passOn
      refine wpAny_bind (wpAny_field ga P8.hd P8.h1 ?_)
      rw [if_neg (show ¬ ((Value.ref T == Value.none) = true) by simp)]
      have last : ∀ s9, Air X (a, oe4) pq2 (σ2.set i none) H2 a2 cls2 d2 (rawInt X.env.locals) B8 sI8 s9 → cameBackBy (model X.prog X.w) X.A X.env (FinallyRaised X.prog X.w X.A X.xe X.env (f₀ :: fs) (SP X pins D)) (.ref a2) s9 := fun s9 ai9 => by
        obtain ⟨T9, oe9, oT9, vs9, tt9, P9⟩ := ai9.pnd hs hf hex
        have g9 : s9.heap.get? a2 = some oe9 := (P9.inv.pin (a2, oe9) (List.mem_append_right _ List.mem_cons_self)).1
        unfold cameBackBy
        refine wpAny_bind (wpAny_field g9 P9.hd P9.h1 ?_)
        rw [if_neg (show ¬ ((Value.ref T9 == Value.none) = true) by simp)]
        have up9 : wpAny (model X.prog X.w) X.A (setFlight (.ref a2) X.env.frame) (fun _ s'' => FinallyRaised X.prog X.w X.A X.xe X.env (f₀ :: fs) (SP X pins D) (.ref a2) s'') (FinallyRaised X.prog X.w X.A X.xe X.env (f₀ :: fs) (SP X pins D)) s9 := by
          rw [hf]
          exact ai9.fly fun s10 ai10 => fin_in hs hf hex ok tk ⟨vs4, hd4, hz4.2.2 vs4 hd4⟩ hfs ⟨a2, B8, sI8, pq2, _, H2, cls2, d2, rfl, ai10.inv, ai10.nb, ai10.up, .inr (.inr ⟨ai10.st, ai10.hn, ai10.ff, ai10.tr⟩), ai10.na, ai10.os, ai10.ag, ai10.p1m, w2⟩
        first
          | exact up9
          | exact wpAny_bind (wpAny_pure up9)
      have step : ∀ {Q : Flow → Shared → Prop} {E : Value → Shared → Prop}, (∀ s9, Air X (a, oe4) pq2 (σ2.set i none) H2 a2 cls2 d2 (rawInt X.env.locals) B8 sI8 s9 → E (.ref a2) s9) → wpAny (model X.prog X.w) (X.A.mark (some (.ref a))) (do
          setFlight (.ref a2) X.env.frame
          throw (.ref a2)) Q E s8 := fun {Q E} k => by
        rw [hf]
        exact wpAny_bind (ai8.fly fun s9 ai9 => wpAny_throw (k s9 ai9))
      refine step fun s9 ai9 => ?_
      exact ai9.again hf (last s9 ai9)
    · cases f with
      | next =>
        obtain ⟨_, _, _, q⟩ := w
        exact q.elim
      | brk =>
        obtain ⟨_, _, _, q⟩ := w
        exact q.elim
      | cont =>
        obtain ⟨_, _, _, q⟩ := w
        exact q.elim
      | ret u =>
        obtain ⟨_, _, _, _, _, q⟩ := w
        exact q.elim
  · cases f with
    | next =>
      obtain ⟨σ1, H1, J1, q1⟩ := w
      refine wpAny_execs_nil (wpAny_mono (hfin.run pins s1 σ1 H1 D ((J1.ofTry ok).wish _) q1) (fun g s2 q2 => ?_) fun _ _ e => e.elim)
      have q3 : SP X pins D g s2 := q2.unwish
      cases g <;> exact q3
    | brk =>
      obtain ⟨_, _, _, q⟩ := w
      exact q.elim
    | cont =>
      obtain ⟨_, _, _, q⟩ := w
      exact q.elim
    | ret u =>
      obtain ⟨_, _, _, _, _, q⟩ := w
      exact q.elim
end
end WM
set_option Elab.async false
set_option linter.all false
set_option maxRecDepth 100000
set_option maxHeartbeats 2000000
namespace WM
open PySem PySem.Spec PyProof.Rows L2 HotX
/-! ### raise x from y, y an exception that stands -/
section
variable {prog : Program} {w : World} {A : Around} {E : Value → Shared → Prop} {s : Shared}
theorem noClass {p : Addr} {o : Obj} {fv : Array Value} {Q : Bool → Shared → Prop} (hp : s.heap.get? p = some o) (hd : o.data = .fields fv) (q : Q false s) : wpAny (model prog w) A (isType (.ref p)) Q E s := by
  simp only [isType, loadHead]
  refine wpAny_bind (wpAny_loadPart hp ?_)
  rw [hd]
  exact wpAny_pure q
theorem excFrom {p : Addr} {o : Obj} {fv : Array Value} {msg : String} {Q : Value → Shared → Prop} (hp : s.heap.get? p = some o) (hd : o.data = .fields fv) (L : PySem.W.Looks (model prog w) s.heap (isSubtype o.cls (.type "BaseException")) true) (q : Q (.ref p) s) :
    wpAny (model prog w) A (excFromValue (.ref p) msg) Q E s := by
  have lt : PySem.W.Looks (model prog w) s.heap (typeOf (.ref p)) o.cls := fun A Q E s k q => wpAny_typeOf_ref (k _ _ hp) q
  have li : PySem.W.Looks (model prog w) s.heap (isInstance (.ref p) (.type "BaseException")) true := lt.andThen L
  unfold excFromValue isExcClass
  refine wpAny_bind (wpAny_bind (noClass hp hd ?_))
  simp only [Bool.false_eq_true, if_false]
  refine wpAny_pure ?_
  simp only [Bool.false_eq_true, if_false]
  refine wpAny_bind (li.here ?_)
  simp only [if_true]
  exact wpAny_pure q
/-- the heap behind «from»: field 3 is the cause, field 4 is True -/
def fromH (h : Heap) (a x1 : Addr) : Heap := (h.update a (Obj.mapFields (·.setIfInBounds 3 (.ref x1)))).update a (Obj.mapFields (·.setIfInBounds 4 (.bool true)))
theorem fromH_at {h : Heap} {a x1 : Addr} {oe : Obj} {vs : Array Value} (ha : h.get? a = some oe) (hd : oe.data = .fields vs) :
    (fromH h a x1).get? a = some ((oe.mapFields (·.setIfInBounds 3 (.ref x1))).mapFields (·.setIfInBounds 4 (.bool true))) ∧ ((oe.mapFields (·.setIfInBounds 3 (.ref x1))).mapFields (·.setIfInBounds 4 (.bool true))).data = .fields ((vs.setIfInBounds 3 (.ref x1)).setIfInBounds 4 (.bool true)) := by
  have d3 := Obj.data_mapFields hd (·.setIfInBounds 3 (.ref x1))
  have g3 := Heap.get?_update_self (Obj.mapFields (·.setIfInBounds 3 (.ref x1))) ha (Obj.isFreed_of_fields d3)
  have d4 := Obj.data_mapFields d3 (·.setIfInBounds 4 (.bool true))
  exact ⟨Heap.get?_update_self (Obj.mapFields (·.setIfInBounds 4 (.bool true))) g3 (Obj.isFreed_of_fields d4), d4⟩
theorem fromH_other {h : Heap} {a b x1 : Addr} (hne : a ≠ b) : (fromH h a x1).get? b = h.get? b := by
  unfold fromH
  rw [Heap.get?_update_other _ _ hne, Heap.get?_update_other _ _ hne]
theorem raise_from {env : Env} {x c : Sem Value} {Q : Flow → Shared → Prop} {x1 : Addr}
    (h : wpAny (model prog w) A x (fun v s₁ => ∃ a oe vs cls o1 f1, v = .ref a ∧ (∀ Q' : Value → Shared → Prop, Q' (.ref x1) s₁ → wpAny (model prog w) A c Q' E s₁) ∧ s₁.heap.get? a = some oe ∧ oe.cls = cls ∧ oe.data = .fields vs ∧ vs[1]? = some .none ∧ 4 < vs.size ∧ x1 ≠ a ∧
      s₁.heap.get? x1 = some o1 ∧ o1.data = .fields f1 ∧ PySem.W.Looks (model prog w) s₁.heap (isSubtype o1.cls (.type "BaseException")) true ∧ HotAt A x1 s₁.heap ∧ PySem.W.Looks (model prog w) s₁.heap (isSubtype cls (.type "BaseException")) true ∧
      PySem.W.Looks (model prog w) (fromH s₁.heap a x1) (typeOf cls) (.type "type") ∧ E (.ref a) { s₁ with heap := (fromH s₁.heap a x1).update a (Obj.mapFields (·.setIfInBounds 2 (.ref x1))) }) E s) :
    wpAny (model prog w) A (raiseStmt env (some x) (some c)) Q E s := by
  unfold raiseStmt
  dsimp only
  refine wpAny_bind (wpAny_mono h (fun v s₁ z => ?_) fun _ _ x => x)
  obtain ⟨a, oe, vs, cls, o1, f1, rfl, hcs, ha, rfl, hd, h1, hi, hne, g1, d1, L1, hot, La, Lt, hE⟩ := z
  have d3 := Obj.data_mapFields hd (·.setIfInBounds 3 (.ref x1))
  have g3 := Heap.get?_update_self (Obj.mapFields (·.setIfInBounds 3 (.ref x1))) ha (Obj.isFreed_of_fields d3)
  obtain ⟨g4, d4⟩ := fromH_at (x1 := x1) ha hd
  have s3 : 3 < vs.size := by omega
  have s4 : 4 < (vs.setIfInBounds 3 (Value.ref x1)).size := by rw [set_size]; exact hi
  have s2 : 2 < ((vs.setIfInBounds 3 (Value.ref x1)).setIfInBounds 4 (Value.bool true)).size := by rw [set_size, set_size]; omega
  have h14 : ((vs.setIfInBounds 3 (Value.ref x1)).setIfInBounds 4 (Value.bool true))[1]? = some Value.none := set_other (by decide) (set_other (by decide) h1)
  have hcl : ((oe.mapFields (·.setIfInBounds 3 (.ref x1))).mapFields (·.setIfInBounds 4 (.bool true))).cls = oe.cls := by rw [Obj.cls_mapFields, Obj.cls_mapFields]
  have lt4 : PySem.W.Looks (model prog w) (fromH s₁.heap a x1) (typeOf (.ref a)) oe.cls := fun A Q E s k q => wpAny_typeOf_ref (k _ _ g4) (by rw [hcl]; exact q)
  have hot4 : HotAt A x1 (fromH s₁.heap a x1) := by
    obtain ⟨q1, o, vs', q2, q3, q4⟩ := hot
    exact ⟨q1, o, vs', by rw [fromH_other (Ne.symm hne)]; exact q2, q3, q4⟩
  have rest : wpAny (model prog w) A (do
      let q ← isType (.ref a)
      if q = true then do
          let e ← holding [.ref a] (raisedFor (.ref a) (.ref a))
          setFlight e none
          raiseNew e
        else do
          let e ← raisedInstance (.ref a)
          setFlight e none
          raiseNew e : Sem Flow) Q E { s₁ with heap := fromH s₁.heap a x1 } := by
    refine wpAny_bind (noClass g4 d4 ?_)
    simp only [Bool.false_eq_true, if_false]
    unfold raisedInstance
    refine wpAny_bind (wpAny_bind (lt4.here (wpAny_bind (Lt.here ?_))))
    rw [if_pos (beq_self_eq_true _)]
    refine wpAny_pure ?_
    unfold setFlight
    refine wpAny_bind (wpAny_bind (wpAny_field g4 d4 h14 ?_))
    rw [if_neg (by decide)]
    refine wpAny_pure ?_
    exact raiseNew_hot hot4 hne g4 d4 s2 hE
  refine wpAny_bind (wpAny_holding (hcs _ (wpAny_bind (wpAny_pure ?_))))
  dsimp only
  refine wpAny_bind (wpAny_holding (excFrom ha hd La ?_))
  rw [if_neg (show ¬ ((Value.ref x1 == Value.none) = true) by simp)]
  exact wpAny_bind (wpAny_holding (excFrom g1 d1 L1 (wpAny_bind (wpAny_setField ha hd s3 (wpAny_bind (wpAny_setField g3 d3 s4 rest))))))
end
section
variable {X : Cx} {W : WX} {e : Expr} {t : L2.St → Hp → XK → Prop} {i : Nat} {n : Str} {np pos : Pos}
/-- raise C(..) from n in the suite of «except .. as n»: n's slot holds the exception -/
theorem ps_raiseF {p : Addr × Obj} (hot : L2H.Hot1 X.A p) (hp : p ∈ X.pn) (tk : TakesX X p W) (he : L2H.PMk5 X e t) (hN : X.N[i]? = some n) (hln : X.env.kindOf n = some .local) (hd : (n == ("__debug__" : Str)) = false := by decide) :
    PS X (.Raise (some e) (some (.Name n np)) pos) (fun _ σ H => PySem.W.subIn X.K p.2.cls (.type "BaseException") = some true ∧ σ[i]? = some (some (.ref p.1)) ∧ t σ H fun cls d H' => W cls d σ H') := by
  refine ⟨fun pins s σ H D I h => ?_⟩
  obtain ⟨hsub, hsl, ht⟩ := h
  obtain ⟨hh, f1, d1, c1⟩ := hot
  show wpAny _ _ (do standAt pos; raiseStmt X.env (some (do let v ← eval e X.env; standAt pos; pure v)) (some (do let v ← eval (.Name n np) X.env; standAt pos; pure v))) _ _ _
  refine wpAny_bind (wpAny_standAt (raise_from (x1 := p.1) (wpAny_bind (wpAny_mono (he pins s σ H _ I ht) (fun u s1 hu => wpAny_bind (wpAny_standAt (wpAny_pure ?_))) fun _ _ x => x))))
  obtain ⟨⟨a, oe, vs, sI, H', cls, d, rfl, J, k, hne, ha, hz, hdd, h1, na, os, ag, r, q⟩, h5⟩ := hu
  have hi : 4 < vs.size := h5 a oe vs rfl ha hdd
  have P1 := (J.pin p (List.mem_append_left _ hp)).1
  have nap : p.1 ≠ a := fun z => by
    rw [z, hne] at P1
    cases P1
  have nab : ∀ b u, sI.heap.get? b = some u → a ≠ b := fun b u z y => by
    rw [← y, hne] at z
    cases z
  have k4 : ∀ b u, sI.heap.get? b = some u → (fromH s1.heap a p.1).get? b = some u := fun b u z => by
    rw [fromH_other (nab b u z)]
    exact k b u z
  obtain ⟨r1, _⟩ := r (model X.prog X.w) s1.heap (J.kIn.keeps k)
  obtain ⟨_, r2⟩ := r (model X.prog X.w) (fromH s1.heap a p.1) (J.kIn.keeps k4)
  obtain ⟨g4, d4⟩ := fromH_at (x1 := p.1) ha hdd
  have s2 : 2 < ((vs.setIfInBounds 3 (Value.ref p.1)).setIfInBounds 4 (Value.bool true)).size := by rw [set_size, set_size]; omega
  have d5 := Obj.data_mapFields d4 (·.setIfInBounds 2 (.ref p.1))
  have h12 : (((vs.setIfInBounds 3 (Value.ref p.1)).setIfInBounds 4 (Value.bool true)).setIfInBounds 2 (Value.ref p.1))[1]? = some Value.none := set_other (by decide) (set_other (by decide) (set_other (by decide) h1))
  refine ⟨a, oe, vs, cls, p.2, f1, rfl, fun Q' q' => ?_, ha, hz.1, hdd, h1, hi, nap, k _ _ P1, d1, PySem.W.looks_subIn (J.kIn.keeps k) hsub, ⟨hh, p.2, f1, k _ _ P1, d1, c1⟩, r1, r2, tk _ _ ?_⟩
  · obtain ⟨m, hn, hl⟩ := J.loc
    obtain ⟨u, ru, l⟩ := hl i n (.ref p.1) hN hsl (.inl hln)
    cases ru
    rcases l with ⟨hk, hm⟩ | ⟨hk, c, _, _⟩
    · exact wpAny_bind (wpAny_Name (wpAny_loadName_local J.ok.kind hk (hn.keeps k) hm (wpAny_bind (wpAny_standAt (wpAny_pure q')))) hd)
    · rw [hln] at hk
      rcases hk with hk | hk <;> cases hk
  · have k5 : ∀ b u, sI.heap.get? b = some u → ((fromH s1.heap a p.1).update a (Obj.mapFields (·.setIfInBounds 2 (.ref p.1)))).get? b = some u := fun b u z => by
      rw [Heap.get?_update_other _ _ (nab b u z)]
      exact k4 b u z
    refine ⟨a, PySem.W.hideAll sI.heap (frs X.stack), sI, pins, σ, H', cls, d, rfl, J, fun b o e hb => PySem.W.hideAll_get _ e hb, Heap.UpToSlots.of_keeps k5, .inl ⟨fun b o e => k5 b o (PySem.W.of_hideAll _ e), ?_, ?_,
      _, _, Heap.get?_update_self _ g4 (Obj.isFreed_of_fields d5), ⟨?_, ?_, fun fv ef => ?_⟩, d5, h12⟩, na, os, ag, List.mem_append_left _ hp, q⟩
    · cases y : (PySem.W.hideAll sI.heap (frs X.stack)).get? a with
      | none => rfl
      | some o =>
        have z := PySem.W.of_hideAll _ y
        rw [hne] at z
        cases z
    · exact Heap.FunFrames.of_keeps (fun b o e _ => ⟨o, k5 b o e, rfl⟩) (funFrames_none J.stack fun b hb => PySem.W.hideAll_none _ hb)
    · rw [Obj.cls_mapFields, Obj.cls_mapFields, Obj.cls_mapFields]
      exact hz.1
    · rw [HandSPX.dict_mapFields, HandSPX.dict_mapFields, HandSPX.dict_mapFields]
      exact hz.2.1
    · rw [d5] at ef
      cases ef
      exact Array.getElem?_setIfInBounds_self_of_lt s2
end
end WM
set_option Elab.async false
set_option linter.all false
set_option maxRecDepth 100000
set_option maxHeartbeats 2000000
namespace WM
open PySem PySem.Spec PyProof.Rows L2 HotX
/-! ### a tuple taken apart while an exception with a context is handled -/
def H2At (A : Around) (b x1 : Addr) (h : Heap) : Prop := A.handled = some (.ref b) ∧ x1 ≠ b ∧ (∃ (o : Obj) (fv : Array Value), h.get? b = some o ∧ o.data = .fields fv ∧ fv[2]? = some (.ref x1)) ∧ ∃ (o : Obj) (fv : Array Value), h.get? x1 = some o ∧ o.data = .fields fv ∧ fv[2]? = some .none
theorem H2At.keeps {A : Around} {b x1 : Addr} {h h' : Heap} (x : H2At A b x1 h) (k : ∀ c o, (c = b ∨ c = x1) → h.get? c = some o → h'.get? c = some o) : H2At A b x1 h' := by
  obtain ⟨q1, q2, ⟨o, fv, g1, g2, g3⟩, u, gv, k1, k2, k3⟩ := x
  exact ⟨q1, q2, ⟨o, fv, k _ _ (.inl rfl) g1, g2, g3⟩, u, gv, k _ _ (.inr rfl) k1, k2, k3⟩
section
variable {prog : Program} {w : World} {A : Around} {E : Value → Shared → Prop} {s : Shared} {b x1 a : Addr}
theorem unchain2 {Q : Value → Shared → Prop} (x : H2At A b x1 s.heap) (hne : x1 ≠ a) (q : Q .none s) :
    wpAny (model prog w) A (holding [Value.ref a] (runValue (.builtin "proto.unchain" ⟨[.ref a, .ref b, .ref b, .bool false], []⟩))) Q E s := by
  obtain ⟨_, hb, ⟨o, fv, g1, g2, g3⟩, u, gv, k1, k2, k3⟩ := x
  refine wpAny_holding (wpAny_runValue (codeAny_builtin HotX.entry_unchain ?_))
  show wpAny _ _ (field (.ref b) 2 >>= _) _ _ s
  refine wpAny_bind (wpAny_field g1 g2 g3 ?_)
  rw [if_neg (show ¬ ((Value.ref x1 == Value.none) = true) by simp), if_neg (show ¬ ((Value.ref x1 == Value.ref a) = true) by simp [hne]), if_neg (show ¬ ((Value.ref x1 == Value.ref b) = true) by simp [hb])]
  refine wpAny_bind (wpAny_pure (wpAny_pure ⟨Code.quiet_builtin _ (by decide +kernel), codeAny_builtin HotX.entry_unchain ?_⟩))
  show wpAny _ _ (field (.ref x1) 2 >>= _) _ _ s
  refine wpAny_bind (wpAny_field k1 k2 k3 ?_)
  rw [if_pos (show (Value.none == Value.none) = true from rfl)]
  first
  | exact wpAny_bind (wpAny_pure (wpAny_pure q))
  | exact wpAny_pure q
theorem raiseNew2 {α : Type} {oe : Obj} {fv : Array Value} {Q : α → Shared → Prop} (x : H2At A b x1 s.heap) (hab : b ≠ a) (hxa : x1 ≠ a) (ha : s.heap.get? a = some oe) (da : oe.data = .fields fv) (hi : 2 < fv.size)
    (hE : E (.ref a) { s with heap := s.heap.update a (Obj.mapFields (·.setIfInBounds 2 (.ref b))) }) : wpAny (model prog w) A (raiseNew (.ref a) : Sem α) Q E s := by
  unfold raiseNew
  refine wpAny_bind (wpAny_handled ?_)
  rw [x.1]
  have hb : (Value.ref b != Value.ref a) = true := ref_bne hab
  first
  | (show wpAny _ _ (if (Value.ref b != Value.ref a) = true then _ else _) _ _ _
     rw [if_pos hb]
     first
     | exact wpAny_bind (unchain2 x hxa (wpAny_bind (chained ha da hi (wpAny_throw hE))))
     | exact wpAny_bind (wpAny_bind (unchain2 x hxa (chained ha da hi (wpAny_throw hE)))))
  | (refine wpAny_bind ?_
     show wpAny _ _ (if (Value.ref b != Value.ref a) = true then _ else _) _ _ _
     rw [if_pos hb]
     exact wpAny_bind (unchain2 x hxa (chained ha da hi (wpAny_throw hE))))
theorem next_end2 {it t : Addr} {i : Nat} {items : Array Value} {Q : Option Value → Shared → Prop} (x : H2At A b x1 s.heap) (nb : b ≠ it) (nx : x1 ≠ it) (hit : IsTupIter s.heap it t i) (ht : IsTup s.heap t items) (hx : items[i]? = none)
    (hQ : ∀ h', (∀ c o, c ≠ it → s.heap.get? c = some o → h'.get? c = some o) → Q none { s with heap := h' }) : wpAny (model prog w) A (pyNext (.ref it)) Q E s := by
  obtain ⟨o, ho, hc, hd⟩ := id hit
  obtain ⟨ol, hol, _, nl, hdl⟩ := ht
  unfold pyNext
  refine wpAny_bind (wpAny_attempt (wpAny_callSpecial?_slot (name := Str.ofString "__next__") hit.typeIs slot_tupleiter_next (wpAny_call_entry slot_tupleiter_next hit.typeIs entry_tupleiter_next ?_ (args_tupleiter_next _))))
  show wpAny _ _ (field (.ref it) 0 >>= _) _ _ s
  refine wpAny_bind (wpAny_field ho hd (x := .ref t) rfl ?_)
  show wpAny _ _ (if (Value.ref t == Value.none) = true then _ else _) _ _ s
  rw [if_neg (show ¬ ((Value.ref t == Value.none) = true) by simp)]
  show wpAny _ _ (field (.ref it) 1 >>= _) _ _ s
  refine wpAny_bind (wpAny_field ho hd (x := .int i 0) rfl ?_)
  show wpAny _ _ (seqItems? (.ref t) >>= _) _ _ s
  refine wpAny_bind (wpAny_seqItems hol hdl ?_)
  simp only [Int.toNat_natCast, hx]
  refine wpAny_bind (wpAny_rule (wpAny_bind (wpAny_setField ho hd (by simp) ?_)))
  show wpAny _ _ (newExc (.type "StopIteration") [] >>= _) _ _ _
  refine wpAny_bind ?_
  simp only [newExc, newTuple]
  refine wpAny_bind (wpAny_newObj_type ?_ (by size_fits))
  refine wpAny_bind (m := firstArgMember _ _) (wpAny_of_eq (a := Value.none) (by first | rfl | (simp only [firstArgMember]; rfl)) ?_)
  refine wpAny_newObj_type ?_ (by size_fits)
  have k1 : ∀ c u, c ≠ it → s.heap.get? c = some u → (s.heap.update it (Obj.mapFields fun x => x.setIfInBounds 0 Value.none)).get? c = some u := fun c u n e => (Heap.get?_update_other _ _ (Ne.symm n)).trans e
  have lt : ∀ {c u}, c ≠ it → s.heap.get? c = some u → c < (s.heap.update it (Obj.mapFields fun x => x.setIfInBounds 0 Value.none)).objs.size := fun {c u} n e => Heap.lt_size (k1 c u n e)
  obtain ⟨_, _, ⟨ob, fb, gb, _, _⟩, o1, f1, g1, _, _⟩ := id x
  refine raiseNew2 (b := b) (x1 := x1) (x.keeps fun c u hcx e => ?_) (Nat.ne_of_lt ?_) (Nat.ne_of_lt ?_) (Heap.get?_push_size _ rfl) rfl (by first | (simp; done) | (simp; omega) | (simp only [Array.size_append]; simp; omega)) ?_
  · refine Heap.get?_push_of_some _ (Heap.get?_push_of_some _ (k1 c u ?_ e))
    rcases hcx with rfl | rfl
    · exact nb
    · exact nx
  · exact Heap.lt_size (Heap.get?_push_of_some _ (k1 b ob nb gb))
  · exact Heap.lt_size (Heap.get?_push_of_some _ (k1 x1 o1 nx g1))
  refine wpAny_bind (wpAny_isInstance (T := "StopIteration") (b := true) ⟨_, Heap.get?_update_self _ (Heap.get?_push_size _ rfl) rfl, rfl⟩ isSubtype_stop ?_)
  refine wpAny_pure (hQ _ fun c u n e => ?_)
  rw [Heap.get?_update_other _ _ (Nat.ne_of_gt (Heap.lt_size (Heap.get?_push_of_some _ (k1 c u n e))))]
  exact Heap.get?_push_of_some _ (Heap.get?_push_of_some _ (k1 c u n e))
theorem unpack2 {t : Addr} {items : Array Value} {targets : List (Bool × (Value → Sem Unit))} {Q : Unit → Shared → Prop} (x : H2At A b x1 s.heap) (ht : IsTup s.heap t items) (hn : targets.length = items.size) (hstar : targets.findIdx? (·.1) = none)
    (h : ∀ h', (∀ c o, s.heap.get? c = some o → h'.get? c = some o) → wpAny (model prog w) A (assignInOrder (targets.map (·.2)) items.toList) Q E { s with heap := h' }) : wpAny (model prog w) A (unpack (.ref t) targets) Q E s := by
  have hlt : t ≠ s.heap.objs.size := by
    obtain ⟨o, ho, _⟩ := ht
    exact Nat.ne_of_lt (Heap.lt_size ho)
  obtain ⟨_, _, ⟨ob, fb, gb, _, _⟩, o1, f1, g1, _, _⟩ := id x
  unfold unpack
  rw [hn, hstar]
  refine wpAny_bind (wpAny_holding ?_)
  unfold unpackItems
  refine wpAny_bind ?_
  unfold notIterableAtAll
  refine wpAny_bind (wpAny_specialOf ht.typeIs slot_tuple_iter.lookup ?_)
  refine wpAny_pure ?_
  simp only [Bool.false_eq_true, if_false]
  refine wpAny_bind (wpAny_holding (iter_tuple ht ?_))
  refine wpAny_bind (wpAny_holding (draw_tuple hlt items.size 0 _ _ ⟨_, Heap.get?_push_size _ rfl, rfl, rfl⟩ (ht.push _) (by omega) fun h₁ hit₁ hs₁ => ?_))
  have hall : List.take items.size (List.drop 0 items.toList) = items.toList := by
    rw [List.drop_zero]
    exact List.take_of_length_le (by simp)
  rw [hall, if_neg (by simp)]
  have k1 : ∀ c o, s.heap.get? c = some o → h₁.get? c = some o := fun c o e => hs₁.extBut c o (Nat.ne_of_lt (Heap.lt_size e)) (Heap.get?_push_of_some _ e)
  refine wpAny_bind (wpAny_holding (next_end2 (x.keeps fun c o _ e => k1 c o e) (Nat.ne_of_lt (Heap.lt_size gb)) (Nat.ne_of_lt (Heap.lt_size g1)) hit₁ ((ht.push _).extBut hs₁.extBut hlt) (by simp) fun h₂ he₂ => ?_))
  simp only [Option.isSome_none, Bool.false_eq_true, if_false]
  exact wpAny_pure (h h₂ fun c o e => he₂ c o (Nat.ne_of_lt (Heap.lt_size e)) (k1 c o e))
end
section
variable {X : Cx} {pos : Pos}
theorem Hot2.at {pins : List (Addr × Obj)} {σ : L2.St} {H : Hp} {s : Shared} (c : Hot2 X) (I : Inv X pins σ H s) : ∃ b x1, H2At X.A b x1 s.heap := by
  obtain ⟨a, x1, oe, o1, fv, v1, hh, m1, m2, ne, d1, c1, d2, c2⟩ := c.ex
  exact ⟨a, x1, hh, ne, ⟨oe, fv, (I.pin _ (List.mem_append_left _ m1)).1, d1, c1⟩, o1, v1, (I.pin _ (List.mem_append_left _ m2)).1, d2, c2⟩
theorem pg_tup2 {es : List Expr} {k : Nat} {t : TGs} {n : Nat} (hc : Hot2 X) (h : PGs X es t) (hn : (assignEach es X.env).length = n := by rfl) (hst : (assignEach es X.env).findIdx? (·.1) = none := by rfl) : PG X (.Tuple es k pos) (gTup X.K n t) := by
  refine ⟨fun pins s σ H v u Q I r hw => ?_⟩
  obtain ⟨a, xs, rfl, hq, hl, hw⟩ := hw
  cases r
  obtain ⟨its, rv, ht, hz⟩ := I.tuple hq
  obtain ⟨b, x1, h2⟩ := hc.at I
  rw [assign_Tuple]
  refine wpAny_bind (wpAny_standAt (unpack2 h2 ht (by simp [hn, ← hl, rv.length]) hst fun h' hx => ?_))
  have I1 : Inv X pins σ H { s with heap := h' } := I.kept (t' := s.toks) hx
  exact h.run pins _ σ H xs _ Q I1 (by simpa using rv) hw
/-- o.f as a target -/
def gFld (K : PySem.W.Frag) (to : TE) (f : Str) : TG := fun v σ H Q => to σ H fun x H1 => ∃ a C dx fs, x = .ref a ∧ H1 a = some (.ins C dx fs) ∧ Cls K C ∧ NoAttr K C f ∧ fs.length < 1000 ∧ Q σ (upd H1 a (.ins C dx (putF f v fs)))
theorem pg_fld {o : Expr} {to : TE} {f : Str} (ho : PE X o to) : PG X (.Attribute o f pos) (gFld X.K to f) := by
  refine ⟨fun pins s σ H v u Q I r h => ?_⟩
  show wpAny _ _ (do let ov ← holding [u] (eval o X.env); standAt pos.atName; holding [u, ov] (setAttr ov f u); release [u, ov] []) _ _ _
  refine wpAny_bind (wpAny_holding (thn (ho.run pins s σ H _ I h) fun ov s1 w => ?_))
  obtain ⟨x, H1, I1, rx, a, C, dx, fs, ex, ea, c, n, l, q⟩ := w
  subst ex
  cases rx
  refine wpAny_bind (wpAny_standAt (wpAny_bind (wpAny_holding (setattr_ok I1 ea c n l r fun s2 I2 => ?_))))
  exact wpAny_release ⟨σ, _, I2, q⟩
theorem pfldK {K : PySem.W.Frag} {o : Expr} {to : TE} {f : Str} (ho : PE X o to) (h : X.K = K := by rfl) : PG X (.Attribute o f pos) (gFld K to f) := h ▸ pg_fld ho
theorem gtup2K {K : PySem.W.Frag} {es : List Expr} {k : Nat} {gs : TGs} {n : Nat} (hc : Hot2 X) (hg : PGs X es gs) (hn : (assignEach es X.env).length = n := by rfl) (hst : (assignEach es X.env).findIdx? (·.1) = none := by rfl) (h : X.K = K := by rfl) : PG X (.Tuple es k pos) (gTup K n gs) := h ▸ pg_tup2 hc hg hn hst
end
end WM
set_option Elab.async false
set_option linter.all false
set_option maxRecDepth 100000
set_option maxHeartbeats 2000000
namespace WM
open PySem PySem.Spec PyProof.Rows L2
/-! ### o != p of own instances with an own __eq__ and no __ne__ -/
section
open PySem.W
variable {prog : Program} {w : World} {A : Around} {E : Value → Shared → Prop} {s : Shared} {K : Frag} {x C f L : Addr} {h₀ : Heap} {m : Str → Option Value} {ox : Obj} {od : Option Obj} {b tb : Value}
theorem ifNe {Q : Option Value → Shared → Prop} (X : K.In s.heap) (I : InstAt s.heap x ox C od) (hs : findIn K (.ref C) "__ne__" = some (some (.builtin "object.__ne__"))) (h : wpAny (model prog w) A (call (.builtin "object.__ne__") [.ref x, b]) (fun v => Q (some v)) E s) :
    wpAny (model prog w) A (callSpecialIfBound? (.ref x) "__ne__" [b]) Q E s := by
  simp only [callSpecialIfBound?, bindSpecialIfBound?]
  refine wpAny_holding (wpAny_bind (wpAny_bind (wpAny_bind (I.type.here ((looks_findIn X hs).here ?_)))))
  simp only [F.cmp_object.ne.bind]
  refine wpAny_bind (wpAny_askSetting (wpAny_ite ?_))
  have fin : wpAny (model prog w) A (call (.builtin "object.__ne__") ([.ref x] ++ [b]) >>= fun v => pure (some v)) Q E s := wpAny_bind (wpAny_mono h (fun v s' z => wpAny_pure z) fun _ _ z => z)
  split
  · exact wpAny_bind (wpAny_pure (wpAny_pure fin))
  · exact wpAny_tryCatch (wpAny_bind (wpAny_pure (wpAny_pure fin)))
theorem callNe {Q : Value → Shared → Prop} (hu : A.units + 1 < cLine) (X : K.In s.heap) (I : InstAt s.heap x ox C od) (ob : subIn K (.ref C) (.type "object") = some true) (he : findIn K (.ref C) "__eq__" = some (some (.ref f))) (hf : isFn K (.ref f) = true)
    (h : wpAny (model prog w) A.in1 (call (.ref f) [.ref x, b]) (fun v s' => ∃ t, v = .bool t ∧ Q (.bool (!t)) s') E s) : wpAny (model prog w) A (call (.builtin "object.__ne__") [.ref x, b]) Q E s := by
  have li : Looks (model prog w) s.heap (isInstance (.ref x) (.type "object")) true := I.type.andThen (looks_subIn X ob)
  refine wpAny_call (codeAny_call_builtin F.cmp_object.ne.plain F.cmpEntry_ne (check_slot F.cmpKind_ne F.cmpSplit_ne li (F.cmpArgs_ne _ _) ?_))
  unfold Builtin.«object.__ne__»
  refine wpAny_bind (wpAny_of_eq (a := ((Value.ref x : Value), [b])) (by first | rfl | (simp only [slotArgs]; rfl)) ?_)
  refine wpAny_bind (wpAny_cRoomFor (show A.in1.units < cLine from hu) ?_)
  refine wpAny_bind (ifBound_K X I he hf (wpAny_mono h (fun v s' z => ?_) fun _ _ z => z))
  obtain ⟨t, rfl, q⟩ := z
  refine wpAny_bind (wpAny_truthy_bool ?_)
  exact wpAny_pure q
theorem ne_own {Q : Value → Shared → Prop} (hu : A.units + 1 < cLine) (F₀ : Fr h₀ L s.heap m) (X₀ : K.In h₀) (I : InstAt s.heap x ox C od) (hb : Looks (model prog w) s.heap (typeOf b) tb) (hn : notFirst K C tb = true) (ob : subIn K (.ref C) (.type "object") = some true)
    (hs : findIn K (.ref C) "__ne__" = some (some (.builtin "object.__ne__"))) (he : findIn K (.ref C) "__eq__" = some (some (.ref f))) (hf : isFn K (.ref f) = true)
    (h : wpAny (model prog w) A.in1 (call (.ref f) [.ref x, b]) (fun v s' => ∃ t, v = .bool t ∧ Q (.bool (!t)) s') E s) : wpAny (model prog w) A (richCompare .NotEq (.ref x) b) Q E s := by
  have X := X₀.keeps F₀.keep
  have one : wpAny (model prog w) A (tryCompare (.ref x) "__ne__" b) (fun r s' => ∃ v, r = some v ∧ Q v s') E s := by
    unfold tryCompare
    refine wpAny_bind (ifNe X I hs (callNe hu X I ob he hf (wpAny_mono h (fun v s' z => ?_) fun _ _ z => z)))
    obtain ⟨t, rfl, q⟩ := z
    exact ⟨t, rfl, wpAny_pure ⟨_, rfl, q⟩⟩
  unfold richCompare
  simp only [oneThing_ref, cmpInfo_NotEq]
  refine wpAny_holding (wpAny_bind (wpAny_cRoomFor (Nat.lt_of_succ_lt hu) ?_))
  refine wpAny_bind (I.type.here (wpAny_bind (hb.here ?_)))
  split
  · rename_i q
    have e : subIn K tb (.ref C) = some false := by
      rcases Bool.or_eq_true_iff.mp hn with e | e
      · rw [beq_iff_eq.mp e] at q
        simp at q
      · exact beq_iff_eq.mp e
    refine wpAny_bind ((looks_subIn X e).here ?_)
    simp only [Bool.false_eq_true, if_false]
    refine wpAny_bind (wpAny_mono one (fun r s' z => ?_) fun _ _ e => e)
    obtain ⟨v, rfl, hq⟩ := z
    exact wpAny_pure hq
  · refine wpAny_bind (wpAny_pure ?_)
    simp only [Bool.false_eq_true, if_false]
    refine wpAny_bind (wpAny_mono one (fun r s' z => ?_) fun _ _ e => e)
    obtain ⟨v, rfl, hq⟩ := z
    exact wpAny_pure hq
end
/-- what the class must say for it -/
structure NeOk (K : PySem.W.Frag) (C : Addr) : Prop where
  ne : PySem.W.findIn K (.ref C) "__ne__" = some (some (.builtin "object.__ne__"))
  ob : PySem.W.subIn K (.ref C) (.type "object") = some true
section
variable {X : Cx} {CX : CXT} {C f : Addr} {k : Nat} {fd : FuncData} {ps : List Str} {sp : Sp} {E : XK}
theorem op_neI (F : FnOk X.prog X.w X.K X.mg X.base CX k f fd ps sp) (n : NeOk X.K C) (hs : PySem.W.findIn X.K (.ref C) "__eq__" = some (some (.ref f))) (hf : PySem.W.isFn X.K (.ref f) = true) (hr : Room (k + 1) X.A) (hb : Binds X.K fd ps []) (hx : Passes CX X E) :
    OpR X (compareOp .NotEq) (fun x y H Q => rEqI C sp E x y H fun v H' => ∃ t, v = .bl t ∧ Q (.bl (!t)) H') := by
  intro pins s σ H x y v u Q I rx ry h
  obtain ⟨a, b, dx, dy, fs, gs, rfl, rfl, ha, hb', hsp⟩ := h
  cases rx
  cases ry
  obtain ⟨mA, J, _⟩ := ins_get I.hok ha
  obtain ⟨mB, J', _⟩ := ins_get I.hok hb'
  obtain ⟨od, J, _⟩ := J.look
  obtain ⟨od', J', _⟩ := J'.look
  obtain ⟨m, hF⟩ := I.fr
  show wpAny (model X.prog X.w) X.A (richCompare .NotEq (.ref a) (.ref b)) _ _ _
  refine ne_own (tb := .ref C) (Nat.lt_of_le_of_lt (Nat.add_le_add_left (by decide : 1 ≤ 64) _) hr.units) hF I.ok.mod.kin J J'.type (by simp [PySem.W.notFirst]) n.ob n.ne hs hf ?_
  have hl := F.len _ _ _ _ hsp
  have r2 : Vals [V.ref a, V.ref b] [Value.ref a, Value.ref b] := .cons rfl (.cons rfl .nil)
  have b2 := hb s [.ref a, .ref b] I.kIn (by simpa using hl)
  rw [List.append_nil] at b2
  refine wpAny_call (codeAny_mono (F.run X.A.in1 X.stack s H ⟨[.ref a, .ref b], []⟩ [.ref a, .ref b] [.ref a, .ref b] _ E hr.in1 I.env0.in1 b2 r2 hsp) fun r s' hq => ?_)
  cases r with
  | error e => exact hx pins σ H s e s' I hq
  | ok fl =>
    cases fl with
    | ret w =>
      obtain ⟨z, H', I', rz, t, ez, t', et, q⟩ := I.after hq
      subst ez
      cases et
      cases rz
      exact ⟨t, rfl, .bl (!t), H', I', rfl, q⟩
    | next => exact False.elim hq
    | brk => exact False.elim hq
    | cont => exact False.elim hq
theorem neM (M : Met X.prog X.w X.K X.mg X.base CX C "__eq__" k sp) (n : NeOk X.K C) (hr : Room (k + 1) X.A) (hx : Passes CX X E) : OpR X (compareOp .NotEq) (fun x y H Q => rEqI C sp E x y H fun v H' => ∃ t, v = .bl t ∧ Q (.bl (!t)) H') := by
  obtain ⟨f, fd, ps, F, hf, hi, hk, hb⟩ := M.ex
  exact op_neI F n hf hi hr hb hx
end
end WM
set_option Elab.async false
set_option linter.all false
set_option maxRecDepth 100000
set_option maxHeartbeats 2000000
namespace WM
open PySem PySem.Spec PyProof.Rows L2
local macro_rules | `(tactic| walk_at "ne") => `(tactic| first | assumption | exact Ne.symm (by assumption) | exact ne_fresh (by assumption) (by walk_at "hp") | exact (ne_fresh (by assumption) (by walk_at "hp")).symm | exact ne_kind (by walk_at "hp") (by walk_at "hp") (by intro z; cases z))
local macro_rules | `(tactic| walk_at "ni") => `(tactic| first | exact List.not_mem_nil | assumption | exact ni1 (by walk_at "ne") | exact ni2 (by walk_at "ne") (by walk_at "ne") | exact ni3 (by walk_at "ne") (by walk_at "ne") (by walk_at "ne"))
local macro_rules | `(tactic| walk_at "hp") => `(tactic| first | assumption | exact upd_same | (apply upd_getN; (assumption); (walk_at "hp")) | (apply Kp.tup; (assumption); (walk_at "hp")) | (apply Kp.get; (assumption); (walk_at "hp"); (walk_at "ni")))
local macro_rules | `(tactic| walk_at "sq") => `(tactic| first | assumption | exact SqL.of (by walk_at "hp") | (apply Kp.sqL; (assumption); (walk_at "sq"); (walk_at "ni")))
local macro_rules | `(tactic| walk_at "kp") => `(tactic| first | exact Kp.refl _ _ | assumption | exact Kp.nil (by assumption) | (refine' Kp.step (by assumption) ?_ (by first | exact fun _ z => z | exact fun _ z => nomatch z | simp); walk_at "kp"))
local macro_rules | `(tactic| walk_at "tp") => `(tactic| first | assumption | exact Tp.non | exact Tp.bl _ | exact Tp.int _ | exact Tp.str _ | (apply Tp.tup; (walk_at "hp"); (walk_at "tps")) | (apply Tp.kp; (assumption); (walk_at "tp")))
local macro_rules | `(tactic| walk_at "tps") => `(tactic| first | exact TpAll.nil | (refine TpAll.cons ?_ ?_; (walk_at "tp"); (walk_at "tps")))
local macro_rules | `(tactic| walk_at "lk") => `(tactic| first | assumption | rfl)
local macro_rules | `(tactic| walk_at "go1") => `(tactic| first | with_reducible refine x_seq ?_ | with_reducible refine x_asg ?_ | with_reducible refine x_drop ?_ | with_reducible refine x_ret ?_ | with_reducible refine x_if ?_ | with_reducible refine x_next ?_ | with_reducible refine x_par ?_ | with_reducible refine x_par3 ?_ | with_reducible refine x_two ?_ | with_reducible refine x_three ?_ | with_reducible refine x_sfld ?_ | with_reducible refine x_retN ?_ | with_reducible refine x_brk ?_ | with_reducible refine x_name ?_ | with_reducible refine x_gsub ?_ | with_reducible refine x_gcons ?_ | with_reducible refine x_gnil ?_ | ((with_reducible apply x_gtup); (walk_at "hp"); exact rfl) | ((with_reducible apply x_var); exact rfl) | with_reducible refine x_c ?_ | with_reducible refine x_op ?_ | with_reducible refine x_un ?_ | with_reducible refine x_nil ?_ | with_reducible refine x_cons ?_ | with_reducible refine x_tup ?_ | with_reducible refine x_lst ?_ | with_reducible refine x_fldE ?_ | ((with_reducible apply x_fld); (walk_at "hp"); assumption; assumption; (walk_at "lk")) | with_reducible refine x_cal ?_ | with_reducible refine x_metE ?_ | with_reducible refine x_calS ?_ | with_reducible refine x_metS ?_ | ((with_reducible apply x_met); (walk_at "hp"); (walk_at "lk")) | with_reducible refine x_newI ?_ | with_reducible refine x_cb ?_ | with_reducible refine x_bm ?_ | with_reducible refine x_bm0 ?_ | ((with_reducible apply x_bmL); (walk_at "hp")) | with_reducible refine x_sl ?_ | with_reducible refine x_nop ?_ | with_reducible refine x_part ?_ | with_reducible refine x_kP ?_ | with_reducible refine x_ife ?_ | with_reducible refine x_andV ?_ | with_reducible refine x_orV ?_ | with_reducible refine x_notV ?_ | with_reducible refine x_test ?_ | with_reducible refine x_tB ?_ | with_reducible refine x_kB ?_ | with_reducible refine x_and ?_ | with_reducible refine x_or ?_ | with_reducible refine x_not ?_ | with_reducible refine k_T ?_ | with_reducible refine k_F ?_ | with_reducible refine k_not ?_ | walk_at "go2")
local macro_rules | `(tactic| walk_at "go2") => `(tactic| first | ((with_reducible apply x_setF); (walk_at "hp"); assumption; assumption; exact Nat.le_of_ble_eq_true rfl; exact rfl; intro _ _ _) | ((with_reducible apply x_append); (walk_at "hp"); (first | omega | (simp; omega)); intro _ _ _) | ((with_reducible apply x_setL); (walk_at "hp"); exact rfl; intro _ _ _) | with_reducible refine x_addI ?_ | with_reducible refine x_cmp ?_ | with_reducible refine x_subI ?_ | with_reducible refine x_eqI ?_ | with_reducible refine x_eqS ?_ | with_reducible refine x_neI ?_ | with_reducible refine x_neS ?_ | with_reducible refine x_isNo ?_ | with_reducible refine x_notNo ?_ | ((with_reducible apply x_modI); (first | omega | decide)) | ((with_reducible apply x_divI); (first | omega | decide); (first | omega | decide)) | ((with_reducible apply x_mulI); (first | exact .inl ⟨by omega, by omega⟩ | exact .inr ⟨by decide, by decide⟩ | exact .inr ⟨by omega, by omega⟩)) | ((with_reducible apply x_powI); exact ⟨by decide, by decide, by decide⟩) | ((with_reducible apply x_ixT); (walk_at "hp"); exact rfl) | ((with_reducible apply x_ixL); (walk_at "sq"); exact rfl) | ((with_reducible apply x_lenL); (walk_at "sq")) | ((with_reducible apply x_newT); exact Nat.le_of_ble_eq_true rfl; intro _ _ _ _ _) | ((with_reducible apply x_newL); exact Nat.le_of_ble_eq_true rfl; intro _ _ _ _ _) | with_reducible refine x_for ?_ | with_reducible refine x_iL ?_ | with_reducible refine x_iR1 ?_ | with_reducible refine x_iR2 ?_ | with_reducible refine x_iE ?_ | ((with_reducible apply x_kIL); (walk_at "sq")) | ((with_reducible apply x_kE); (walk_at "sq")) | with_reducible refine x_lc ?_ | with_reducible refine x_yes ?_ | ((with_reducible apply x_wp); exact rfl))
local macro_rules | `(tactic| walk_at "go") => `(tactic| (walk_at "go1"; repeat walk_at "go1"))
local macro_rules | `(tactic| walk_at "fr") => `(tactic| first | assumption | exact Kp.free (by assumption) _ (by walk_at "fr"))
def top (i : Nat) : Stmt := PySem.Challenge.pw_weldmill_k85_several_as_one_by_one.main.body.getD i (.Pass ⟨0, 0, 0, 0⟩)
/-- the built-in names are no names of the module -/
structure Blt (mg : Str → Option Value) : Prop where
  len : mg "len" = none
  range : mg "range" = none
  enumerate : mg "enumerate" = none
  isinstance : mg "isinstance" = none
  list : mg "list" = none
  str : mg "str" = none
  ValueError : mg "ValueError" = none
section
variable {P : Program} {w : World} {K : PySem.W.Frag} {mg : Str → Option Value} {base : Heap}
/-- a list that nobody writes: frozen, or an object of the module -/
def SqF (K : PySem.W.Frag) (H : Hp) (a : Addr) (xs : List V) : Prop :=
  (∃ o, H a = some (.frz o (.lst xs))) ∨ ∃ (o : Obj) (its : Array Value) (n : Nat), K.lookup a = some o ∧ o.cls = .type "list" ∧ o.dict = none ∧ o.data = .seq its n ∧ its.size ≤ sizeLine ∧ Vals xs its.toList
theorem SqF.sq {H : Hp} {a : Addr} {xs : List V} (h : SqF K H a xs) : SqL K H a xs := by
  rcases h with h | h
  · exact .inl (.inr h)
  · exact .inr h
theorem SqF.kp {fp : List Addr} {H H' : Hp} {a : Addr} {xs : List V} (k : Kp fp H H') (h : SqF K H a xs) (hf : ∀ b ∈ fp, ∃ ys, H b = some (.lst ys)) : SqF K H' a xs := by
  rcases h with ⟨o, h⟩ | h
  · refine .inl ⟨o, k.get h fun z => ?_⟩
    obtain ⟨ys, e⟩ := hf a z
    rw [h] at e
    cases e
  · exact .inr h
theorem one_lst {H : Hp} {b : Addr} {ys : List V} (h : H b = some (.lst ys)) : ∀ c ∈ [b], ∃ ys, H c = some (.lst ys) := fun c hc => ⟨ys, by rw [List.mem_singleton.mp hc]; exact h⟩
def Pen (K : PySem.W.Frag) (H : Hp) (pn : Addr) : Prop := ∃ (sc : Addr) (ns : List Int) (a c : Int), H pn = some (.lst [.ref sc, .int a, .int c]) ∧ SqF K H sc (ns.map V.int) ∧ ns.length ≤ 63 ∧ 0 ≤ a
def spFill : Sp := fun vs H Q _ => ∃ (c a : Int), vs = [.int c, .int a] ∧ ∀ r : Int, Q (.int r) H
def spNext (K : PySem.W.Frag) : Sp := fun vs H Q _ => ∃ (pn : Addr) (m : Int), vs = [.ref pn, .int m] ∧ Pen K H pn ∧ 0 < m ∧ m < 1000000 ∧ ∀ (r : Int) (H' : Hp), 0 ≤ r → r < m → Kp [pn] H H' → Pen K H' pn → Q (.int r) H'
abbrev s_fill : Stmt := top 11
theorem sc_fill : FnScope ["_law_cell", "_law_at", "_law_x"] ["_law_cell", "_law_at"] (defScope s_fill) := ⟨rfl, rfl, rfl, by decide +kernel, rfl, by decide +kernel, by decide +kernel⟩
theorem D_fill (D : DefAt K mg "_law_fill" s_fill ["_law_cell", "_law_at"]) : Def P w K mg base CX0 "_law_fill" 1 spFill := by
  refine D.ok sc_fill (fun vs H Q E h => by obtain ⟨c, a, rfl, _⟩ := h; rfl) fun f cdv A outer s H vs Q E hr h => ⟨_, (pss_cons (ps_if (pt_cmpR op_geI (pv 0) (pe_op op_powI pe_int pe_int) (nomark _)) (pss_one (ps_ret (pv 0))) pss_nil) (pss_cons (ps_set (i := 2) sc_fill.nd rfl (Or.inl rfl) (pe_op op_modI (pe_op op_addA (pe_op op_addA (pe_op op_mulI (pe_op op_modI (pv 0) pe_int) pe_int) (pe_op op_mulI (pv 1) pe_int)) pe_int) pe_int)) (pss_cons (ps_set (i := 2) sc_fill.nd rfl (Or.inl rfl) (pe_op op_modI (pe_op op_addA (pe_op op_addA (pe_op op_mulI (pv 2) (pv 2)) (pe_op op_mulI pe_int (pv 2))) (pv 1)) pe_int)) (pss_one (ps_ret (pe_op op_addA (pe_op op_mulI (pv 2) pe_int) (pe_op op_modI (pe_op op_addA (pe_op op_mulI (pv 2) (pv 2)) (pe_op op_mulI pe_int (pv 1))) pe_int))))))), ?_⟩
  obtain ⟨c, a, rfl, k⟩ := h
  refine x_body ?_
  walk_at "go"
  refine k_dec (fun _ => ?_) (fun _ => ?_)
  · walk_at "go"
    exact k _
  · walk_at "go"
    exact k _
theorem at_ints {ns : List Int} {a : Int} (h0 : 0 ≤ a) (h1 : a < (ns.length : Int)) : ∃ z : Int, atI (ns.map V.int) a = some (.int z) := by
  obtain ⟨j, rfl⟩ := Int.eq_ofNat_of_zero_le h0
  have hj : j < ns.length := by omega
  exact ⟨ns[j], atI_nat (by rw [List.getElem?_map, List.getElem?_eq_getElem hj]; rfl)⟩
abbrev s_next : Stmt := top 12
theorem sc_next : FnScope ["_law_pen", "_law_many", "_law_at", "_law_cell", "_law_found"] ["_law_pen", "_law_many"] (defScope s_next) := ⟨rfl, rfl, rfl, by decide +kernel, rfl, by decide +kernel, by decide +kernel⟩
theorem D_next (Z : Blt mg) (D_fill : Def P w K mg base CX0 "_law_fill" 1 spFill) (D : DefAt K mg "_law_next" s_next ["_law_pen", "_law_many"]) : Def P w K mg base CX0 "_law_next" 2 (spNext K) := by
  refine D.ok sc_next (fun vs H Q E h => by obtain ⟨c, a, rfl, _⟩ := h; rfl) fun f cdv A outer s H vs Q E hr h => ⟨_, (pss_cons (ps_if (pt_cmpR op_ltI (pe_ix (ixK (K := K)) (pv 0) pe_int (fun _ _ => rfl)) (pv 1) (nomark _)) (pss_cons (ps_set (i := 2) sc_next.nd rfl (Or.inl rfl) (pe_ix (ixK (K := K)) (pv 0) pe_int (fun _ _ => rfl))) (pss_cons (ps_set (i := 3) sc_next.nd rfl (Or.inl rfl) pe_int) (pss_cons (ps_if (pt_cmpR op_ltI (pv 2) (pe_callB (lenK (K := K)) (by rfl) Z.len PySem.boot_len (pa_cons (pe_ix (ixK (K := K)) (pv 0) pe_int (fun _ _ => rfl)) pa_nil)) (nomark _)) (pss_one (ps_set (i := 3) sc_next.nd rfl (Or.inl rfl) (pe_ix (ixK (K := K)) (pe_ix (ixK (K := K)) (pv 0) pe_int (fun _ _ => rfl)) (pv 2) (fun _ _ => rfl)))) (pss_one (ps_if (pt_cmpR op_gtI (pe_callB (lenK (K := K)) (by rfl) Z.len PySem.boot_len (pa_cons (pe_ix (ixK (K := K)) (pv 0) pe_int (fun _ _ => rfl)) pa_nil)) pe_int (nomark _)) (pss_one (ps_set (i := 3) sc_next.nd rfl (Or.inl rfl) (pe_op op_addA (pe_op op_modI (pe_ix (ixK (K := K)) (pe_ix (ixK (K := K)) (pv 0) pe_int (fun _ _ => rfl)) (pe_op op_modI (pe_op op_mulI (pv 2) pe_int) (pe_callB (lenK (K := K)) (by rfl) Z.len PySem.boot_len (pa_cons (pe_ix (ixK (K := K)) (pv 0) pe_int (fun _ _ => rfl)) pa_nil))) (fun _ _ => rfl)) pe_int) (pe_op op_mulI (pv 2) pe_int)))) pss_nil))) (pss_cons (ps_asg (pe_op op_addA (pv 2) pe_int) (pg_sub (pv 0) pe_int set_list)) (pss_one (ps_asg (pe_def D_fill (hr.mono (by decide)) pass0 (pa_cons (pv 3) (pa_cons (pv 2) pa_nil))) (pg_sub (pv 0) pe_int set_list))))))) pss_nil) (pss_cons (ps_set (i := 4) sc_next.nd rfl (Or.inl rfl) (pe_op op_modI (pe_ix (ixK (K := K)) (pv 0) pe_int (fun _ _ => rfl)) (pv 1))) (pss_cons (ps_asg (pe_op op_divI (pe_ix (ixK (K := K)) (pv 0) pe_int (fun _ _ => rfl)) (pv 1)) (pg_sub (pv 0) pe_int set_list)) (pss_one (ps_ret (pv 4)))))), ?_⟩
  obtain ⟨pn, m, rfl, ⟨sc, ns, a, c, hp, hs0, hl, ha⟩, h0, h1, k⟩ := h
  have hs := hs0.sq
  refine x_body ?_
  have hll : ((ns.map V.int).length : Int) = (ns.length : Int) := by rw [List.length_map]
  walk_at "go"
  refine k_dec (fun _ => ?_) (fun _ => ?_)
  · walk_at "go"
    refine k_dec (fun hlt => ?_) (fun _ => ?_)
    · obtain ⟨z, hz⟩ := at_ints ha (by rw [← hll]; exact hlt)
      walk_at "go"
      refine x_ixL (by walk_at "sq") hz ?_
      walk_at "go"
      refine ⟨_, _, rfl, fun r => ?_⟩
      walk_at "go"
      exact k _ _ (Int.emod_nonneg _ (by omega)) (Int.emod_lt_of_pos _ h0) (by walk_at "kp") ⟨sc, ns, _, _, by assumption, hs0.kp (fp := [pn]) (by walk_at "kp") (one_lst hp), hl, by omega⟩
    · walk_at "go"
      refine k_dec (fun hlt => ?_) (fun _ => ?_)
      · have hpos : 0 < (ns.length : Int) := by rw [← hll]; exact hlt
        obtain ⟨z, hz⟩ := at_ints (ns := ns) (a := a * 7 % ((ns.map V.int).length : Int)) (Int.emod_nonneg _ (by omega)) (by have := Int.emod_lt_of_pos (a * 7) hpos; rw [hll]; exact this)
        walk_at "go"
        refine x_ixL (by walk_at "sq") hz ?_
        walk_at "go"
        refine ⟨_, _, rfl, fun r => ?_⟩
        walk_at "go"
        exact k _ _ (Int.emod_nonneg _ (by omega)) (Int.emod_lt_of_pos _ h0) (by walk_at "kp") ⟨sc, ns, _, _, by assumption, hs0.kp (fp := [pn]) (by walk_at "kp") (one_lst hp), hl, by omega⟩
      · walk_at "go"
        refine ⟨_, _, rfl, fun r => ?_⟩
        walk_at "go"
        exact k _ _ (Int.emod_nonneg _ (by omega)) (Int.emod_lt_of_pos _ h0) (by walk_at "kp") ⟨sc, ns, _, _, by assumption, hs0.kp (fp := [pn]) (by walk_at "kp") (one_lst hp), hl, by omega⟩
  · walk_at "go"
    exact k _ _ (Int.emod_nonneg _ (by omega)) (Int.emod_lt_of_pos _ h0) (by walk_at "kp") ⟨sc, ns, _, _, by assumption, hs0.kp (fp := [pn]) (by walk_at "kp") (one_lst hp), hl, by omega⟩
end
end WM
set_option Elab.async false
set_option linter.all false
set_option maxRecDepth 100000
set_option maxHeartbeats 2000000
namespace WM
open PySem PySem.Spec PyProof.Rows L2
local macro_rules | `(tactic| walk_at "ne") => `(tactic| first | assumption | exact Ne.symm (by assumption) | exact ne_fresh (by assumption) (by walk_at "hp") | exact (ne_fresh (by assumption) (by walk_at "hp")).symm | exact ne_kind (by walk_at "hp") (by walk_at "hp") (by intro z; cases z))
local macro_rules | `(tactic| walk_at "ni") => `(tactic| first | exact List.not_mem_nil | assumption | exact ni1 (by walk_at "ne") | exact ni2 (by walk_at "ne") (by walk_at "ne") | exact ni3 (by walk_at "ne") (by walk_at "ne") (by walk_at "ne"))
local macro_rules | `(tactic| walk_at "hp") => `(tactic| first | assumption | exact upd_same | (apply upd_getN; (assumption); (walk_at "hp")) | (apply Kp.tup; (assumption); (walk_at "hp")) | (apply Kp.get; (assumption); (walk_at "hp"); (walk_at "ni")))
local macro_rules | `(tactic| walk_at "sq") => `(tactic| first | assumption | exact SqL.of (by walk_at "hp") | (apply Kp.sqL; (assumption); (walk_at "sq"); (walk_at "ni")))
local macro_rules | `(tactic| walk_at "kp") => `(tactic| first | exact Kp.refl _ _ | assumption | exact Kp.nil (by assumption) | (refine' Kp.step (by assumption) ?_ (by first | exact fun _ z => z | exact fun _ z => nomatch z | simp); walk_at "kp"))
local macro_rules | `(tactic| walk_at "tp") => `(tactic| first | assumption | exact Tp.non | exact Tp.bl _ | exact Tp.int _ | exact Tp.str _ | (apply Tp.tup; (walk_at "hp"); (walk_at "tps")) | (apply Tp.kp; (assumption); (walk_at "tp")))
local macro_rules | `(tactic| walk_at "tps") => `(tactic| first | exact TpAll.nil | (refine TpAll.cons ?_ ?_; (walk_at "tp"); (walk_at "tps")))
local macro_rules | `(tactic| walk_at "lk") => `(tactic| first | assumption | rfl)
local macro_rules | `(tactic| walk_at "go1") => `(tactic| first | with_reducible refine x_seq ?_ | with_reducible refine x_asg ?_ | with_reducible refine x_drop ?_ | with_reducible refine x_ret ?_ | with_reducible refine x_if ?_ | with_reducible refine x_next ?_ | with_reducible refine x_par ?_ | with_reducible refine x_par3 ?_ | with_reducible refine x_two ?_ | with_reducible refine x_three ?_ | with_reducible refine x_sfld ?_ | with_reducible refine x_retN ?_ | with_reducible refine x_brk ?_ | with_reducible refine x_name ?_ | with_reducible refine x_gsub ?_ | with_reducible refine x_gcons ?_ | with_reducible refine x_gnil ?_ | ((with_reducible apply x_gtup); (walk_at "hp"); exact rfl) | ((with_reducible apply x_var); exact rfl) | with_reducible refine x_c ?_ | with_reducible refine x_op ?_ | with_reducible refine x_un ?_ | with_reducible refine x_nil ?_ | with_reducible refine x_cons ?_ | with_reducible refine x_tup ?_ | with_reducible refine x_lst ?_ | with_reducible refine x_fldE ?_ | ((with_reducible apply x_fld); (walk_at "hp"); assumption; assumption; (walk_at "lk")) | with_reducible refine x_cal ?_ | with_reducible refine x_metE ?_ | with_reducible refine x_calS ?_ | with_reducible refine x_metS ?_ | ((with_reducible apply x_met); (walk_at "hp"); (walk_at "lk")) | with_reducible refine x_newI ?_ | with_reducible refine x_cb ?_ | with_reducible refine x_bm ?_ | with_reducible refine x_bm0 ?_ | ((with_reducible apply x_bmL); (walk_at "hp")) | with_reducible refine x_sl ?_ | with_reducible refine x_nop ?_ | with_reducible refine x_part ?_ | with_reducible refine x_kP ?_ | with_reducible refine x_ife ?_ | with_reducible refine x_andV ?_ | with_reducible refine x_orV ?_ | with_reducible refine x_notV ?_ | with_reducible refine x_test ?_ | with_reducible refine x_tB ?_ | with_reducible refine x_kB ?_ | with_reducible refine x_and ?_ | with_reducible refine x_or ?_ | with_reducible refine x_not ?_ | with_reducible refine k_T ?_ | with_reducible refine k_F ?_ | with_reducible refine k_not ?_ | walk_at "go2")
local macro_rules | `(tactic| walk_at "go2") => `(tactic| first | ((with_reducible apply x_setF); (walk_at "hp"); assumption; assumption; exact Nat.le_of_ble_eq_true rfl; exact rfl; intro _ _ _) | ((with_reducible apply x_append); (walk_at "hp"); (first | omega | (simp; omega)); intro _ _ _) | ((with_reducible apply x_setL); (walk_at "hp"); exact rfl; intro _ _ _) | with_reducible refine x_addI ?_ | with_reducible refine x_cmp ?_ | with_reducible refine x_subI ?_ | with_reducible refine x_eqI ?_ | with_reducible refine x_eqS ?_ | with_reducible refine x_neI ?_ | with_reducible refine x_neS ?_ | with_reducible refine x_isNo ?_ | with_reducible refine x_notNo ?_ | ((with_reducible apply x_modI); (first | omega | decide)) | ((with_reducible apply x_divI); (first | omega | decide); (first | omega | decide)) | ((with_reducible apply x_mulI); (first | exact .inl ⟨by omega, by omega⟩ | exact .inr ⟨by decide, by decide⟩ | exact .inr ⟨by omega, by omega⟩)) | ((with_reducible apply x_powI); exact ⟨by decide, by decide, by decide⟩) | ((with_reducible apply x_ixT); (walk_at "hp"); exact rfl) | ((with_reducible apply x_ixL); (walk_at "sq"); exact rfl) | ((with_reducible apply x_lenL); (walk_at "sq")) | ((with_reducible apply x_newT); exact Nat.le_of_ble_eq_true rfl; intro _ _ _ _ _) | ((with_reducible apply x_newL); exact Nat.le_of_ble_eq_true rfl; intro _ _ _ _ _) | with_reducible refine x_for ?_ | with_reducible refine x_iL ?_ | with_reducible refine x_iR1 ?_ | with_reducible refine x_iR2 ?_ | with_reducible refine x_iE ?_ | ((with_reducible apply x_kIL); (walk_at "sq")) | ((with_reducible apply x_kE); (walk_at "sq")) | with_reducible refine x_lc ?_ | with_reducible refine x_yes ?_ | ((with_reducible apply x_wp); exact rfl))
local macro_rules | `(tactic| walk_at "go") => `(tactic| (walk_at "go1"; repeat walk_at "go1"))
local macro_rules | `(tactic| walk_at "fr") => `(tactic| first | assumption | exact Kp.free (by assumption) _ (by walk_at "fr"))
/-! ### exceptions with one field -/
def spIni (C : Addr) (f : Str) : Sp := fun vs H Q _ => ∃ (a : Addr) (v : V), vs = [.ref a, v] ∧ H a = some (exo a C none) ∧ ∀ d, H d = none → d ≠ a → Q .non (upd (upd H d (exd d [(f, v)])) a (exo a C (some d)))
structure ExcD (P : Program) (w : World) (K : PySem.W.Frag) (mg : Str → Option Value) (base : Heap) (x : Str) (C : Addr) (f : Str) : Prop where
  gC : mg x = some (.ref C)
  T : OexC K C
  ex : ∃ (fI : Addr) (fd : FuncData) (ps : List Str), PySem.W.findIn K (.ref C) "__init__" = some (some (.ref fI)) ∧ PySem.W.typeIn K (.ref fI) = some (.type "function") ∧ FnOk P w K mg base CX0 1 fI fd ps (spIni C f) ∧ Binds K fd ps []
def kMk (C : Addr) (f : Str) (G : XK) (vs : List V) (H : Hp) : Prop := ∃ v, vs = [v] ∧ ∀ d H', Kp [] H H' → H d = none → H' d = some (.xd [(f, v)]) → G (.ref C) (some d) H'
theorem x_mk {C : Addr} {f : Str} {G : XK} {v : V} {H : Hp} (h : ∀ d H', Kp [] H H' → H d = none → H' d = some (.xd [(f, v)]) → G (.ref C) (some d) H') : kMk C f G [v] H := ⟨v, rfl, h⟩
/-- raise X(e, ..) -/
def tRs (C : Addr) (f : Str) (W : WX) (ta : TA) : TS := fun _ σ H => ta σ H (kMk C f fun cls d H' => W cls d σ H')
theorem x_rs {C : Addr} {f : Str} {W : WX} {ta : TA} {N B Ct : L2.St → Hp → Prop} {R : VK} {σ : L2.St} {H : Hp} (h : ta σ H (kMk C f fun cls d H' => W cls d σ H')) : Run (tRs C f W ta) N R B Ct σ H := h
theorem exo_ne_none {a C : Addr} {H : Hp} : upd H a (exo a C none) a = some (exo a C none) := upd_same
/-- arguments whose reading may be weakened -/
def cloA (ta : TA) : TA := fun σ H Q => ∃ G : List V → Hp → Prop, ta σ H G ∧ ∀ vs H', G vs H' → Q vs H'
theorem pa_clo {X : Cx} {es : List Expr} {ta : TA} (h : PA X es ta) : PA X es (cloA ta) := ⟨fun pos pins s σ H Q I ⟨G, g, k⟩ => thn (h.run pos pins s σ H G I g) fun us s1 ⟨vs, H', I', r, q⟩ => ⟨vs, H', I', r, k _ _ q⟩⟩
theorem ps_rs {X : Cx} {x f : Str} {C : Addr} {W : WX} {e : Expr} {es : List Expr} {ta : TA} {p pos pos2 : Pos} (hc : X.calm = true) (tk : Takes X W) (D : ExcD X.prog X.w X.K X.mg X.base x C f) (hr : Room 2 X.A) (ha : PA X (e :: es) ta) (hg : Gl X x := by rfl)
    (hdb : (x == ("__debug__" : Str)) = false := by decide) (he : starEach (e :: es) X.env = (false, eval e X.env) :: starEach es X.env := by rfl) (hpl : (backTo pos (starEach es X.env)).any (·.1) = false := by rfl) :
    PS X (.Raise (some (.Call (.Name x p) (e :: es) [] pos)) none pos2) (tRs C f W ta) := by
  obtain ⟨fI, fd, ps, iC, tI, F, b⟩ := D.ex
  have h1 := pmk_oex (p := p) (pos := pos) D.T iC tI F hr b .nil pass0 hg D.gC (pa_clo ha) hdb he hpl
  refine ps_raise hc tk (t := fun σ H G => ta σ H (kMk C f G)) fun pins s σ H G I h => h1 pins s σ H G I ?_
  have key : ∀ vs H1, kMk C f G vs H1 → (vs.length ≤ 1000 ∧ ∀ a, H1 a = none → spIni C f (.ref a :: (vs ++ [])) (upd H1 a (exo a C none))
      (fun v H2 => v = .non ∧ ∃ (d : Addr) (fs : List (Str × V)), H2 a = some (exo a C (some d)) ∧ H2 d = some (exd d fs) ∧ H1 d = none ∧ G (.ref C) (some d) (upd (del H2 a) d (.xd fs))) (fun _ _ _ => False)) := by
    rintro vs H1 ⟨v, rfl, g⟩
    refine ⟨Nat.le_of_ble_eq_true rfl, fun a ha => ⟨a, v, rfl, upd_same, fun d hd hne => ⟨rfl, d, [(f, v)], upd_same, (upd_ne hne).trans upd_same, ?_, ?_⟩⟩⟩
    · rw [upd_ne hne] at hd
      exact hd
    · have hd' : H1 d = none := by
        rw [upd_ne hne] at hd
        exact hd
      refine g d _ ?_ hd' upd_same
      refine ⟨fun b o e _ => ?_, fun b xs e => ?_, fun b e => ?_⟩
      · rw [upd_ne (ne_of_none e hd'), del_ne (ne_of_none e ha), upd_ne (ne_of_none e ha), upd_ne (ne_of_none e hd'), upd_ne (ne_of_none e ha)]
        exact e
      · rw [upd_ne (ne_of_none e hd'), del_ne (ne_of_none e ha), upd_ne (ne_of_none e ha), upd_ne (ne_of_none e hd'), upd_ne (ne_of_none e ha)]
        exact e
      · by_cases z : b = d
        · rw [z]
          exact hd'
        · rw [upd_ne z] at e
          by_cases z2 : b = a
          · rw [z2]
            exact ha
          · rw [del_ne z2, upd_ne z2, upd_ne z, upd_ne z2] at e
            exact e
  exact ⟨_, h, key⟩
/-! ### pieces, deeds done, a Linker -/
structure Pc where
  p : Addr
  nm : Str
  d : PyData
structure PcAt (H : Hp) (c : Pc) : Prop where
  tup : ∃ x y, H c.p = some (.tup [.str c.nm, x, y])
  dat : Tp H (.ref c.p) c.d
  shp : Shp 20 c.d
theorem PcAt.kp {fp : List Addr} {H H' : Hp} {c : Pc} (k : Kp fp H H') (h : PcAt H c) : PcAt H' c := by
  obtain ⟨x, y, e⟩ := h.tup
  exact ⟨⟨x, y, k.tup e⟩, Tp.kp k h.dat, h.shp⟩
inductive Kd where
  | put | exch | take
def Kd.w : Kd → Str
  | .put => "put" | .exch => "exchanged" | .take => "taken"
structure Dn where
  a : Addr
  k : Kd
  at_ : Nat
  pc : Option Pc
def pcV : Option Pc → V
  | none => .non
  | some c => .ref c.p
def pcD : Option Pc → PyData
  | none => .none
  | some c => c.d
structure DnAt (H : Hp) (e : Dn) : Prop where
  tup : H e.a = some (.tup [.str e.k.w, .int (e.at_ : Int), pcV e.pc])
  pc : ∀ c, e.pc = some c → PcAt H c
theorem DnAt.kp {fp : List Addr} {H H' : Hp} {e : Dn} (k : Kp fp H H') (h : DnAt H e) : DnAt H' e := ⟨k.tup h.tup, fun c z => (h.pc c z).kp k⟩
theorem Kd.ok (k : Kd) : PyData.strOk k.w = true := by cases k <;> decide +kernel
theorem DnAt.tp {H : Hp} {e : Dn} (h : DnAt H e) : Tp H (.ref e.a) (.tuple [.str e.k.w, .int (e.at_ : Int), pcD e.pc]) := by
  refine .tup h.tup (.cons (.str _) (.cons (.int _) (.cons ?_ .nil)))
  cases q : e.pc with
  | none => exact .non
  | some c => exact (h.pc c q).dat
theorem DnAt.shp {H : Hp} {e : Dn} (h : DnAt H e) : Shp 21 (.tuple [.str e.k.w, .int (e.at_ : Int), pcD e.pc]) := by
  refine Shp.tuple fun d hd => ?_
  simp only [List.mem_cons, List.not_mem_nil, or_false] at hd
  rcases hd with rfl | rfl | rfl
  · exact Shp.str (Kd.ok _)
  · exact Shp.int _
  · cases q : e.pc with
    | none => exact Shp.none
    | some c => exact (h.pc c q).shp
def lf (pl dl : Addr) : List (Str × V) := [("pieces", .ref pl), ("done", .ref dl)]
theorem lf_p (pl dl : Addr) : (lf pl dl).lookup ("pieces" : Str) = some (.ref pl) := rfl
theorem lf_d (pl dl : Addr) : (lf pl dl).lookup ("done" : Str) = some (.ref dl) := rfl
theorem lf_no {m : Str} (pl dl : Addr) (h1 : (m == ("pieces" : Str)) = false) (h2 : (m == ("done" : Str)) = false) : (lf pl dl).lookup m = none := by
  simp only [lf, List.lookup, h1, h2]
theorem lf_new (pl dl : Addr) : putF "done" (.ref dl) (putF "pieces" (.ref pl) []) = lf pl dl := rfl
structure Lk (C : Addr) (H : Hp) (l pl dl : Addr) (ps : List Pc) (ds : List Dn) : Prop where
  ins : ∃ dx, H l = some (.ins C dx (lf pl dl))
  pcs : H pl = some (.lst (ps.map fun c => V.ref c.p))
  dns : H dl = some (.lst (ds.map fun e => V.ref e.a))
  pok : ∀ c ∈ ps, PcAt H c
  dok : ∀ e ∈ ds, DnAt H e
  ne : pl ≠ dl
theorem Lk.kp {C l pl dl : Addr} {ps : List Pc} {ds : List Dn} {fp : List Addr} {H H' : Hp} (k : Kp fp H H') (h : Lk C H l pl dl ps ds) (n1 : l ∉ fp) (n2 : pl ∉ fp) (n3 : dl ∉ fp) : Lk C H' l pl dl ps ds := by
  obtain ⟨⟨dx, i⟩, p, d, a, b, e⟩ := h
  exact ⟨⟨dx, k.get i n1⟩, k.get p n2, k.get d n3, fun c z => (a c z).kp k, fun x z => (b x z).kp k, e⟩
local macro_rules | `(tactic| walk_at "lk") => `(tactic| first | exact lf_p _ _ | exact lf_d _ _ | exact lf_no _ _ (by decide +kernel) (by decide +kernel))
/-! ### in, not in, of texts -/
theorem inV_strs {x : Str} : ∀ {xs : List Str}, inV (.str x) (xs.map V.str) = decide (x ∈ xs)
  | [] => by simp [inV]
  | y :: xs => by
    have ih := inV_strs (x := x) (xs := xs)
    unfold inV at ih ⊢
    rw [List.map_cons, List.any_cons, ih]
    have e : eqV (.str y) (.str x) = decide (y = x) := by
      unfold eqV
      by_cases h : y = x <;> simp [h]
    rw [e]
    by_cases h : x = y
    · subst h
      simp
    · have h' : ¬ y = x := fun z => h z.symm
      simp [h, h']
theorem flat_strs : ∀ (xs : List Str), (xs.map V.str).all flatV = true
  | [] => rfl
  | _ :: xs => by
    rw [List.map_cons, List.all_cons, flat_strs xs]
    rfl
section
variable {K : PySem.W.Frag} {H : Hp} {Q : VK} {a : Addr}
theorem x_inS {x : Str} {xs : List Str} (ha : SqL K H a (xs.map V.str)) (q : Q (.bl (decide (x ∈ xs))) H) : rIn K false (.str x) (.ref a) H Q := x_in ha rfl (flat_strs xs) (by rw [inV_strs]; exact q)
theorem x_niS {x : Str} {xs : List Str} (ha : SqL K H a (xs.map V.str)) (q : Q (.bl (!decide (x ∈ xs))) H) : rIn K true (.str x) (.ref a) H Q := x_in ha rfl (flat_strs xs) (by rw [inV_strs]; exact q)
end
/-! ### the Linker's defs: promises -/
def spNew (C : Addr) : Sp := fun vs H Q _ => ∃ (l dx : Addr), vs = [.ref l] ∧ H l = some (.ins C dx []) ∧ ∀ pl dl H', Kp [l] H H' → H pl = none → H dl = none → Lk C H' l pl dl [] [] → Q .non H'
def spNames (C : Addr) : Sp := fun vs H Q _ => ∃ (l pl dl : Addr) (ps : List Pc) (ds : List Dn), vs = [.ref l] ∧ Lk C H l pl dl ps ds ∧ ps.length ≤ 1000 ∧ ∀ p H', Kp [] H H' → H p = none → H' p = some (.lst ((ps.map (·.nm)).map V.str)) → Q (.ref p) H'
def spLen (C : Addr) : Sp := fun vs H Q _ => ∃ (l pl dl : Addr) (ps : List Pc) (ds : List Dn), vs = [.ref l] ∧ Lk C H l pl dl ps ds ∧ Q (.int ps.length) H
/-- a refusal: an error of the class at CX, its field told -/
def Refused (E : XK) (H : Hp) (CX : Addr) (f : Str) (v : V) : Prop := ∀ d H', Kp [] H H' → H d = none → H' d = some (.xd [(f, v)]) → E (.ref CX) (some d) H'
def spSpot (C CN : Addr) : Sp := fun vs H Q E => ∃ (l : Addr) (nm : Str) (pl dl : Addr) (ps : List Pc) (ds : List Dn), vs = [.ref l, .str nm] ∧ Lk C H l pl dl ps ds ∧ ps.length ≤ 1000 ∧
  (∀ (i : Nat) c H', ps[i]? = some c → c.nm = nm → Kp [] H H' → Q (.int (i : Int)) H') ∧ ((∀ c ∈ ps, c.nm ≠ nm) → Refused E H CN "name" (.str nm))
def spPut (C CM CT : Addr) : Sp := fun vs H Q E => ∃ (l pl dl : Addr) (c : Pc) (ps : List Pc) (ds : List Dn), vs = [.ref l, .ref c.p] ∧ Lk C H l pl dl ps ds ∧ PcAt H c ∧ ps.length ≤ 1000 ∧ ds.length ≤ 50000 ∧
  (30 ≤ ps.length → Refused E H CM "most" (.int 30)) ∧ (ps.length < 30 → c.nm ∈ ps.map (·.nm) → Refused E H CT "name" (.str c.nm)) ∧
  (ps.length < 30 → c.nm ∉ ps.map (·.nm) → ∀ a H', Kp [pl, dl] H H' → Lk C H' l pl dl (ps ++ [c]) (ds ++ [⟨a, .put, ps.length, none⟩]) → Q .non H')
def spExch (C CN : Addr) : Sp := fun vs H Q E => ∃ (l pl dl : Addr) (c : Pc) (ps : List Pc) (ds : List Dn), vs = [.ref l, .ref c.p] ∧ Lk C H l pl dl ps ds ∧ PcAt H c ∧ ps.length ≤ 1000 ∧ ds.length ≤ 50000 ∧
  (∀ (i : Nat) o a H', ps[i]? = some o → o.nm = c.nm → Kp [pl, dl] H H' → Lk C H' l pl dl (ps.set i c) (ds ++ [⟨a, .exch, i, some o⟩]) → Q .non H') ∧ ((∀ o ∈ ps, o.nm ≠ c.nm) → Refused E H CN "name" (.str c.nm))
def spTake (C CN : Addr) : Sp := fun vs H Q E => ∃ (l pl dl : Addr) (nm : Str) (ps : List Pc) (ds : List Dn), vs = [.ref l, .str nm] ∧ Lk C H l pl dl ps ds ∧ ps.length ≤ 1000 ∧ ds.length ≤ 50000 ∧
  (∀ (i : Nat) o a H', ps[i]? = some o → o.nm = nm → Kp [pl, dl] H H' → Lk C H' l pl dl (ps.eraseIdx i) (ds ++ [⟨a, .take, i, some o⟩]) → Q .non H') ∧ ((∀ o ∈ ps, o.nm ≠ nm) → Refused E H CN "name" (.str nm))
/-- what a deed's undoing asks, and gives -/
def Undo (ps : List Pc) (e : Dn) (qs : List Pc) : Prop := match e.k, e.pc with
  | .put, _ => e.at_ < ps.length ∧ qs = ps.eraseIdx e.at_
  | .exch, some c => e.at_ < ps.length ∧ qs = ps.set e.at_ c
  | .take, some c => e.at_ ≤ ps.length ∧ qs = ps.take e.at_ ++ [c] ++ ps.drop e.at_
  | _, _ => False
def spUndo (C : Addr) : Sp := fun vs H Q _ => ∃ (l pl dl : Addr) (ps : List Pc) (ds : List Dn), vs = [.ref l] ∧ Lk C H l pl dl ps ds ∧ ps.length ≤ 1000 ∧
  (ds = [] → ∀ H', Kp [] H H' → Q .non H') ∧
  (∀ es e, ds = es ++ [e] → ∃ qs, Undo ps e qs ∧ ∀ H', Kp [pl, dl] H H' → Lk C H' l pl dl qs es → Q (.str e.k.w) H')
def spEqL (C : Addr) : Sp := fun vs H Q _ => ∃ (l pl dl m ql el : Addr) (ps qs : List Pc) (ds es : List Dn), vs = [.ref l, .ref m] ∧ Lk C H l pl dl ps ds ∧ Lk C H m ql el qs es ∧
  Q (.bl (PyData.eqv (.list (ps.map (·.d))) (.list (qs.map (·.d))))) H
end WM
set_option Elab.async false
set_option linter.all false
set_option maxRecDepth 100000
set_option maxHeartbeats 2000000
namespace WM
open PySem PySem.Spec PyProof.Rows L2
/-! ### promises whose errors have no context -/
section
variable {P : Program} {w : World} {K : PySem.W.Frag} {mg : Str → Option Value} {base : Heap} {C : Addr} {x m qual : Str} {st : Stmt} {ps N : List Str} {k : Nat} {sp : Sp}
theorem MetAt.okN (D : MetAt K C m qual st ps) (S : FnScope N ps (defScope st)) (len : ∀ vs H Q E, sp vs H Q E → vs.length = ps.length)
    (hb : ∀ (f : Addr) (cdv : Value) (A : Around) (outer : List Env) (s : Shared) (H : Hp) (vs : List V) (Q : VK) (E : XK), Room k (A.deeper (envOfC qual (defScope st) s.heap.objs.size f cdv)) → sp vs H Q E →
      ∃ t, PSs (cxOf (L2N.CX P w) P w K mg base N qual (defScope st) f cdv A outer s H E) (defBody st) t ∧ Body t N vs H Q) : Met P w K mg base (L2N.CX P w) C m (k + 1) sp := by
  obtain ⟨f, fd, F, hf, hi, b⟩ := D.ex
  refine ⟨f, fd, ps, ?_, hf, hi, F.kp, b⟩
  obtain ⟨oc, od, kV, doc, pm, an, cdv, ct, osl, rfl, lk, hcd⟩ := F.ex
  exact fn_of lk hcd S len fun A outer s H vs Q E hr hsp => hb f cdv A outer s H vs Q E hr hsp
theorem Met.down (M : Met P w K mg base (L2N.CX P w) C m k sp) : Met P w K mg base (L2.CX P w) C m k sp := by
  obtain ⟨f, fd, ps, F, r⟩ := M.ex
  refine ⟨f, fd, ps, ⟨F.len, fun A outer s H args us vs Q E hr e0 b rv h => codeAny_mono (F.run A outer s H args us vs Q E hr e0 b rv h) fun q s' z => ?_⟩, r⟩
  cases q with
  | ok fl => cases fl <;> exact z
  | error e =>
    obtain ⟨a, B, H', cls, d, eu, fl, hok, ub, na, os, ag, hE⟩ := (show L2N.CX P w outer H s E e s' from z)
    exact ⟨a, B, H', cls, d, eu, L2H.flyingZ_imp (fun o z => z.zc) fl, hok, ub, na, os, ag, hE⟩
end
theorem mk_key {C : Addr} {f : Str} {G : XK} (vs : List V) (H1 : Hp) (h : kMk C f G vs H1) : vs.length ≤ 1000 ∧ ∀ a, H1 a = none → spIni C f (.ref a :: (vs ++ [])) (upd H1 a (exo a C none))
      (fun v H2 => v = .non ∧ ∃ (d : Addr) (fs : List (Str × V)), H2 a = some (exo a C (some d)) ∧ H2 d = some (exd d fs) ∧ H1 d = none ∧ G (.ref C) (some d) (upd (del H2 a) d (.xd fs))) (fun _ _ _ => False) := by
  obtain ⟨v, rfl, g⟩ := h
  refine ⟨Nat.le_of_ble_eq_true rfl, fun a ha => ⟨a, v, rfl, upd_same, fun d hd hne => ⟨rfl, d, [(f, v)], upd_same, (upd_ne hne).trans upd_same, ?_, ?_⟩⟩⟩
  · rw [upd_ne hne] at hd
    exact hd
  · have hd' : H1 d = none := by
      rw [upd_ne hne] at hd
      exact hd
    refine g d _ ⟨fun b o e _ => ?_, fun b xs e => ?_, fun b e => ?_⟩ hd' upd_same
    · rw [upd_ne (ne_of_none e hd'), del_ne (ne_of_none e ha), upd_ne (ne_of_none e ha), upd_ne (ne_of_none e hd'), upd_ne (ne_of_none e ha)]
      exact e
    · rw [upd_ne (ne_of_none e hd'), del_ne (ne_of_none e ha), upd_ne (ne_of_none e ha), upd_ne (ne_of_none e hd'), upd_ne (ne_of_none e ha)]
      exact e
    · by_cases z : b = d
      · rw [z]
        exact hd'
      · rw [upd_ne z] at e
        by_cases z2 : b = a
        · rw [z2]
          exact ha
        · rw [del_ne z2, upd_ne z2, upd_ne z, upd_ne z2] at e
          exact e
section
variable {X : Cx} {x f n : Str} {C : Addr} {W : WX} {e : Expr} {es : List Expr} {ta : TA} {p np pos pos2 : Pos} {i : Nat}
/-- C(e, ..), where nothing is handled: the error's context is None -/
theorem pmk_oexN {CX : CXT} {fI : Addr} {k : Nat} {fd : FuncData} {ps : List Str} {sp : Sp} (T : OexC X.K C) (iC : PySem.W.findIn X.K (.ref C) "__init__" = some (some (.ref fI))) (tI : PySem.W.typeIn X.K (.ref fI) = some (.type "function"))
    (F1 : FnOk X.prog X.w X.K X.mg X.base CX k fI fd ps sp) (hr : Room (k + 1) X.A) (hb : Binds X.K fd ps []) (hx : Passes CX X (fun _ _ _ => False)) (hg : Gl X x) (hm : X.mg x = some (.ref C)) (ha : PA X (e :: es) ta)
    (hdb : (x == ("__debug__" : Str)) = false := by decide) (he : starEach (e :: es) X.env = (false, eval e X.env) :: starEach es X.env := by rfl) (hpl : (backTo pos (starEach es X.env)).any (·.1) = false := by rfl) :
    L2N.PMk X (.Call (.Name x p) (e :: es) [] pos) (tMkO C sp [] ta) := by
  intro pins s σ H Q I h
  obtain ⟨nm, q, N, bs, bm, sn, sub, ab, col, dd, k0, k1, k2, k3, k5, hC, hbm⟩ := T.cls
  refine wpAny_Call_Name_kw (ld_glob I hg hm ?_ hdb)
  refine PySem.W.callWith_K (h₀ := X.base) I.ok.mod.kin T.kC (thn (ha.run pos pins s σ H _ I h) fun us s1 w => ⟨w.choose_spec.choose_spec.1.kIn, ?_⟩) he hpl
  obtain ⟨vs, H1, I1, r1, hz, q1⟩ := w
  show wpAny _ _ (call (.ref C) us) _ _ _
  obtain ⟨hp, g, dr, tk, os⟩ := s1
  have hsz : hp.objs.size ≤ hp.objs.size + 1 := Nat.le_succ _
  have hq := q1 (hp.objs.size + 1) (I1.hok.fresh hsz)
  have kk : ∀ b o, hp.get? b = some o → ((hp.push (PySem.W.kdv_tup us)).push (PySem.HandSPX.excO C hp.objs.size)).get? b = some o := fun b o e => Heap.get?_push_of_some _ (Heap.get?_push_of_some _ e)
  have I2 : Inv X pins σ (upd H1 (hp.objs.size + 1) (exo (hp.objs.size + 1) C none)) ⟨(hp.push (PySem.W.kdv_tup us)).push (PySem.HandSPX.excO C hp.objs.size), g, dr, tk, os⟩ :=
    I1.laid (t' := tk) kk hsz (exo_ok (by heap_get))
  have r2 : Vals (V.ref (hp.objs.size + 1) :: (vs ++ [])) (Value.ref (hp.objs.size + 1) :: (us ++ [])) := .cons rfl (r1.append .nil)
  have hl : (Value.ref (hp.objs.size + 1) :: us ++ []).length = ps.length := by
    have e := r2.length
    rw [F1.len _ _ _ _ hq] at e
    exact e.symm
  have hb2 := hb _ (Value.ref (hp.objs.size + 1) :: us) I2.kIn hl
  rw [List.cons_append] at hb2
  have hus : us.length ≤ sizeLine := by
    rw [← Paired.length r1, sizeLine_eq]
    omega
  refine wpAny_call (PySem.HandSPX.call_own F.excBase_ValueError (fun Y => PySem.HandSPX.refsVE_contains Y bm hbm) (I1.kIn _ _ hC) (PySem.W.looks_findIn I1.kIn iC) (fun self => PySem.W.bind_fn I1.kIn self tI) hus
    (codeAny_mono (F1.run _ X.stack _ _ ⟨Value.ref (hp.objs.size + 1) :: us, []⟩ (Value.ref (hp.objs.size + 1) :: (us ++ [])) _ _ (fun _ _ _ => False) (hr.make C us []) (I2.env0.make C us []) hb2 r2 hq) fun r s' hq' => ?_))
  cases r with
  | error er => exact hx pins σ _ _ er s' I2 hq'
  | ok fl =>
    cases fl with
    | ret u =>
      obtain ⟨v, H2, os2, bare2, un2, hok2, rv, ev, d, fs, ea, ed, hd1, q2⟩ := hq'
      subst ev
      obtain ⟨h2, g2, d2, t2, os'⟩ := s'
      obtain ⟨t0, G, J, kG, ge, hoe, na⟩ := mk_end0 (d2 := d2) (t2 := t2) I1 hsz kk un2 hok2 os2 bare2 ea ed hd1
      refine ⟨rv, hp.objs.size + 1, _, _, ⟨G, g2, d2, t2, os'⟩, _, .ref C, some d, rfl, J, kG, ge, hoe, ⟨rfl, rfl, fun fv hv => ?_⟩, rfl, rfl, na, rfl, bare2, raises_own T.exC T.tyC, q2⟩
      cases hv
      rfl
    | next => exact False.elim hq'
    | brk => exact False.elim hq'
    | cont => exact False.elim hq'
theorem ps_rsN (hc : X.calm = true) (tk : L2N.Takes X W) (D : ExcD X.prog X.w X.K X.mg X.base x C f) (hr : Room 2 X.A) (ha : PA X (e :: es) ta) (hg : Gl X x := by rfl)
    (hdb : (x == ("__debug__" : Str)) = false := by decide) (he : starEach (e :: es) X.env = (false, eval e X.env) :: starEach es X.env := by rfl) (hpl : (backTo pos (starEach es X.env)).any (·.1) = false := by rfl) :
    PS X (.Raise (some (.Call (.Name x p) (e :: es) [] pos)) none pos2) (tRs C f W ta) := by
  obtain ⟨fI, fd, ps, iC, tI, F, b⟩ := D.ex
  have h1 := pmk_oexN (p := p) (pos := pos) D.T iC tI F hr b pass0 hg D.gC (pa_clo ha) hdb he hpl
  exact L2N.ps_raise hc tk (t := fun σ H G => ta σ H (kMk C f G)) fun pins s σ H G I h => h1 pins s σ H G I ⟨_, h, mk_key⟩
/-- an own error made while one is handled -/
structure ExcH (P : Program) (w : World) (K : PySem.W.Frag) (mg : Str → Option Value) (base : Heap) (x : Str) (C : Addr) (f : Str) : Prop where
  gC : mg x = some (.ref C)
  T : OexC K C
  ex : ∃ (fI : Addr) (fd : FuncData) (ps : List Str), PySem.W.findIn K (.ref C) "__init__" = some (some (.ref fI)) ∧ PySem.W.typeIn K (.ref fI) = some (.type "function") ∧ L2H.FnH P w K mg base CX0 1 fI fd ps (spIni C f) ∧ Binds K fd ps []
def tFrom (K : PySem.W.Frag) (i : Nat) (a : Addr) (cls : Value) (C : Addr) (f : Str) (W : WX) (ta : TA) : TS := fun _ σ H => PySem.W.subIn K cls (.type "BaseException") = some true ∧ σ[i]? = some (some (.ref a)) ∧ ta σ H (kMk C f fun cls d H' => W cls d σ H')
theorem ps_fromX {a : Addr} {oe : Obj} {cls : Value} {d : Option Addr} {pn : List (Addr × Obj)} {xe : Value → Shared → Prop} (hz : L2N.Zn cls d oe) (hv : ∃ vs, oe.data = .fields vs) (tk : TakesX (suiteF X a ((a, oe) :: pn) xe) (a, oe) W) (hot : L2H.HotC (suiteF X a ((a, oe) :: pn) xe))
    (D : ExcH X.prog X.w X.K X.mg X.base x C f) (hr : Room 2 X.A) (ha : PA (suiteF X a ((a, oe) :: pn) xe) (e :: es) ta) (hN : X.N[i]? = some n) (hln : X.env.kindOf n = some .local) (hg : Gl X x := by rfl) (hdb : (x == ("__debug__" : Str)) = false := by decide) (hnd : (n == ("__debug__" : Str)) = false := by decide)
    (he : starEach (e :: es) X.env = (false, eval e X.env) :: starEach es X.env := by rfl) (hpl : (backTo pos (starEach es X.env)).any (·.1) = false := by rfl) :
    PS (suiteF X a ((a, oe) :: pn) xe) (.Raise (some (.Call (.Name x p) (e :: es) [] pos)) (some (.Name n np)) pos2) (tFrom X.K i a cls C f W ta) := by
  obtain ⟨fI, fd, ps, iC, tI, F, b⟩ := D.ex
  obtain ⟨v1, hv1⟩ := hv
  have h1 := L2H.pmk5_oexH (X := suiteF X a ((a, oe) :: pn) xe) (p := p) (pos := pos) D.T iC tI F (L2H.roomH_mark hr _) hot b pass0 hg D.gC (pa_clo ha) hdb he hpl
  have h2 := ps_raiseF (X := suiteF X a ((a, oe) :: pn) xe) (p := (a, oe)) (np := np) (pos := pos2) ⟨rfl, v1, hv1, hz.2.2 v1 hv1⟩ List.mem_cons_self tk (t := fun σ H G => ta σ H (kMk C f G)) (fun pins s σ H G I h => h1 pins s σ H G I ⟨_, h, mk_key⟩) hN hln hnd
  refine ⟨fun pins s σ H D I h => h2.run pins s σ H D I ?_⟩
  obtain ⟨q1, q2, q3⟩ := h
  exact ⟨by rw [show (a, oe).2.cls = cls from hz.1]; exact q1, q2, q3⟩
end
end WM
set_option Elab.async false
set_option linter.all false
set_option maxRecDepth 100000
set_option maxHeartbeats 2000000
namespace WM
open PySem PySem.Spec PyProof.Rows L2
local macro_rules | `(tactic| walk_at "ne") => `(tactic| first | assumption | exact Ne.symm (by assumption) | exact ne_fresh (by assumption) (by walk_at "hp") | exact (ne_fresh (by assumption) (by walk_at "hp")).symm | exact ne_kind (by walk_at "hp") (by walk_at "hp") (by intro z; cases z))
local macro_rules | `(tactic| walk_at "ni") => `(tactic| first | exact List.not_mem_nil | assumption | exact ni1 (by walk_at "ne") | exact ni2 (by walk_at "ne") (by walk_at "ne") | exact ni3 (by walk_at "ne") (by walk_at "ne") (by walk_at "ne"))
local macro_rules | `(tactic| walk_at "hp") => `(tactic| first | assumption | exact upd_same | (apply upd_getN; (assumption); (walk_at "hp")) | (apply Kp.tup; (assumption); (walk_at "hp")) | (apply Kp.get; (assumption); (walk_at "hp"); (walk_at "ni")))
local macro_rules | `(tactic| walk_at "sq") => `(tactic| first | assumption | exact SqL.of (by walk_at "hp") | (apply Kp.sqL; (assumption); (walk_at "sq"); (walk_at "ni")))
local macro_rules | `(tactic| walk_at "kp") => `(tactic| first | exact Kp.refl _ _ | assumption | exact Kp.nil (by assumption) | (refine' Kp.step (by assumption) ?_ (by first | exact fun _ z => z | exact fun _ z => nomatch z | simp); walk_at "kp"))
local macro_rules | `(tactic| walk_at "tp") => `(tactic| first | assumption | exact Tp.non | exact Tp.bl _ | exact Tp.int _ | exact Tp.str _ | (apply Tp.tup; (walk_at "hp"); (walk_at "tps")) | (apply Tp.kp; (assumption); (walk_at "tp")))
local macro_rules | `(tactic| walk_at "tps") => `(tactic| first | exact TpAll.nil | (refine TpAll.cons ?_ ?_; (walk_at "tp"); (walk_at "tps")))
local macro_rules | `(tactic| walk_at "lk") => `(tactic| first | assumption | rfl)
local macro_rules | `(tactic| walk_at "go1") => `(tactic| first | with_reducible refine x_seq ?_ | with_reducible refine x_asg ?_ | with_reducible refine x_drop ?_ | with_reducible refine x_ret ?_ | with_reducible refine x_if ?_ | with_reducible refine x_next ?_ | with_reducible refine x_par ?_ | with_reducible refine x_par3 ?_ | with_reducible refine x_two ?_ | with_reducible refine x_three ?_ | with_reducible refine x_sfld ?_ | with_reducible refine x_retN ?_ | with_reducible refine x_brk ?_ | with_reducible refine x_name ?_ | with_reducible refine x_gsub ?_ | with_reducible refine x_gcons ?_ | with_reducible refine x_gnil ?_ | ((with_reducible apply x_gtup); (walk_at "hp"); exact rfl) | ((with_reducible apply x_var); exact rfl) | with_reducible refine x_c ?_ | with_reducible refine x_op ?_ | with_reducible refine x_un ?_ | with_reducible refine x_nil ?_ | with_reducible refine x_cons ?_ | with_reducible refine x_tup ?_ | with_reducible refine x_lst ?_ | with_reducible refine x_fldE ?_ | ((with_reducible apply x_fld); (walk_at "hp"); assumption; assumption; (walk_at "lk")) | with_reducible refine x_cal ?_ | with_reducible refine x_metE ?_ | with_reducible refine x_calS ?_ | with_reducible refine x_metS ?_ | ((with_reducible apply x_met); (walk_at "hp"); (walk_at "lk")) | with_reducible refine x_newI ?_ | with_reducible refine x_cb ?_ | with_reducible refine x_bm ?_ | with_reducible refine x_bm0 ?_ | ((with_reducible apply x_bmL); (walk_at "hp")) | with_reducible refine x_sl ?_ | with_reducible refine x_nop ?_ | with_reducible refine x_part ?_ | with_reducible refine x_kP ?_ | with_reducible refine x_ife ?_ | with_reducible refine x_andV ?_ | with_reducible refine x_orV ?_ | with_reducible refine x_notV ?_ | with_reducible refine x_test ?_ | with_reducible refine x_tB ?_ | with_reducible refine x_kB ?_ | with_reducible refine x_and ?_ | with_reducible refine x_or ?_ | with_reducible refine x_not ?_ | with_reducible refine k_T ?_ | with_reducible refine k_F ?_ | with_reducible refine k_not ?_ | walk_at "go2")
local macro_rules | `(tactic| walk_at "go2") => `(tactic| first | ((with_reducible apply x_setF); (walk_at "hp"); assumption; assumption; exact Nat.le_of_ble_eq_true rfl; exact rfl; intro _ _ _) | ((with_reducible apply x_append); (walk_at "hp"); (first | omega | (simp; omega)); intro _ _ _) | ((with_reducible apply x_setL); (walk_at "hp"); exact rfl; intro _ _ _) | with_reducible refine x_addI ?_ | with_reducible refine x_cmp ?_ | with_reducible refine x_subI ?_ | with_reducible refine x_eqI ?_ | with_reducible refine x_eqS ?_ | with_reducible refine x_neI ?_ | with_reducible refine x_neS ?_ | with_reducible refine x_isNo ?_ | with_reducible refine x_notNo ?_ | ((with_reducible apply x_modI); (first | omega | decide)) | ((with_reducible apply x_divI); (first | omega | decide); (first | omega | decide)) | ((with_reducible apply x_mulI); (first | exact .inl ⟨by omega, by omega⟩ | exact .inr ⟨by decide, by decide⟩ | exact .inr ⟨by omega, by omega⟩)) | ((with_reducible apply x_powI); exact ⟨by decide, by decide, by decide⟩) | ((with_reducible apply x_ixT); (walk_at "hp"); exact rfl) | ((with_reducible apply x_ixL); (walk_at "sq"); exact rfl) | ((with_reducible apply x_lenL); (walk_at "sq")) | ((with_reducible apply x_newT); exact Nat.le_of_ble_eq_true rfl; intro _ _ _ _ _) | ((with_reducible apply x_newL); exact Nat.le_of_ble_eq_true rfl; intro _ _ _ _ _) | with_reducible refine x_for ?_ | with_reducible refine x_iL ?_ | with_reducible refine x_iR1 ?_ | with_reducible refine x_iR2 ?_ | with_reducible refine x_iE ?_ | ((with_reducible apply x_kIL); (walk_at "sq")) | ((with_reducible apply x_kE); (walk_at "sq")) | with_reducible refine x_lc ?_ | with_reducible refine x_yes ?_ | ((with_reducible apply x_wp); exact rfl))
local macro_rules | `(tactic| walk_at "go") => `(tactic| (walk_at "go1"; repeat walk_at "go1"))
local macro_rules | `(tactic| walk_at "fr") => `(tactic| first | assumption | exact Kp.free (by assumption) _ (by walk_at "fr"))
local macro_rules | `(tactic| walk_at "lk") => `(tactic| first | exact lf_p _ _ | exact lf_d _ _ | exact lf_no _ _ (by decide +kernel) (by decide +kernel))
local macro_rules | `(tactic| walk_at "go1") => `(tactic| first | with_reducible refine x_rs ?_ | ((with_reducible apply x_niS); (walk_at "sq")) | ((with_reducible apply x_inS); (walk_at "sq")))
section
variable {P : Program} {w : World} {K : PySem.W.Frag} {mg : Str → Option Value} {base : Heap} {C : Addr}
/-! ### the errors' own __init__ -/
abbrev s_Twin_init : Stmt := inClass (top 3) 0
theorem sc_Twin_init : FnScope ["self", "name"] ["self", "name"] (defScope s_Twin_init) := ⟨rfl, rfl, rfl, by decide +kernel, rfl, by decide +kernel, by decide +kernel⟩
theorem I_Twin {CT D : Addr} {mc : Value} (T : OexC K CT) (GW : mg "WeldError" = some (.ref D)) (CW : CIni K D mc) (hno : PySem.W.findIn K (.ref CT) "name" = some none) (gC : mg "Twin" = some (.ref CT)) (M : MetAt K CT "__init__" "Twin.__init__" s_Twin_init ["self", "name"])
    (tI : ∀ f : Addr, PySem.W.isFn K (.ref f) = true → PySem.W.typeIn K (.ref f) = some (.type "function")) : ExcD P w K mg base "Twin" CT "name" := by
  obtain ⟨f, fd, F, hf, hi, b⟩ := M.ex
  refine ⟨gC, T, f, fd, _, hf, tI f hi, F.ok sc_Twin_init (fun vs H Q E h => by obtain ⟨a, v, rfl, _⟩ := h; rfl) fun cdv A outer s H vs Q E hr h => ⟨_, (pss_cons (ps_expr (pe_clsinit rfl GW CW (pa_cons (pv 0) (pa_cons pe_str pa_nil)))) (pss_one (ps_ost (pv 0) (pv 1)))), ?_⟩, b⟩
  obtain ⟨a, v, rfl, ha, k⟩ := h
  refine ⟨_, rfl, a, CT, _, rfl, Nat.le_of_ble_eq_true rfl, T, ha, ?_⟩
  exact ⟨_, rfl, _, rfl, a, CT, rfl, T, hno, .inl ⟨ha, fun dx h1 h2 => k dx h1 h2⟩⟩
/-! ### the Linker's defs -/
abbrev s_Linker_init : Stmt := inClass (top 9) 0
theorem sc_Linker_init : FnScope ["self"] ["self"] (defScope s_Linker_init) := ⟨rfl, rfl, rfl, by decide +kernel, rfl, by decide +kernel, by decide +kernel⟩
theorem M_init (cl : Cls K C) (nP : NoAttr K C "pieces") (nD : NoAttr K C "done") (M : MetAt K C "__init__" "Linker.__init__" s_Linker_init ["self"]) : Met P w K mg base CX0 C "__init__" 1 (spNew C) := by
  refine M.ok sc_Linker_init (fun vs H Q E h => by obtain ⟨a, v, rfl, _⟩ := h; rfl) fun f cdv A outer s H vs Q E hr h => ⟨_, (pss_cons (sfldK (K := K) (pv 0) (pe_lst pa_nil) rfl) (pss_one (sfldK (K := K) (pv 0) (pe_lst pa_nil) rfl))), ?_⟩
  obtain ⟨l, dx, rfl, hl, k⟩ := h
  refine x_body ?_
  walk_at "go"
  rename_i pl H1 k1 n1 e1 H2 k2 e2 dl H3 k3 n3 e3 H4 k4 e4
  have t4 : pl ≠ dl := by walk_at "ne"
  exact k pl dl H4 (by walk_at "kp") n1 (by walk_at "fr") ⟨⟨dx, e4⟩, by walk_at "hp", by walk_at "hp", (fun _ z => nomatch z), (fun _ z => nomatch z), by walk_at "ne"⟩
abbrev s_Linker_names : Stmt := inClass (top 9) 3
theorem sc_Linker_names : FnScope ["self", "piece"] ["self"] (defScope s_Linker_names) := ⟨rfl, rfl, rfl, by decide +kernel, rfl, by decide +kernel, by decide +kernel⟩
theorem M_names (cl : Cls K C) (nP : NoAttr K C "pieces") (M : MetAt K C "names" "Linker.names" s_Linker_names ["self"]) : Met P w K mg base CX0 C "names" 1 (spNames C) := by
  refine M.ok sc_Linker_names (fun vs H Q E h => by obtain ⟨l, pl, dl, ps, ds, rfl, _⟩ := h; rfl) fun f cdv A outer s H vs Q E hr h => ⟨_, (pss_one (ps_ret (pe_lc (own := [("piece", 1)]) (g := gName 1) rfl sc_Linker_names.nd (listIt (K := K) (fldK (K := K) (pv 0) rfl)) (blkOk_by (own := [("piece", 1)]) (N := ["self", "piece"]) (sc := defScope s_Linker_names) (by decide +kernel)) (fun _ _ _ _ _ => (pg_name (i := 1) sc_Linker_names.nd rfl (Or.inl rfl))) (fun _ _ _ _ _ => pts_nil) (fun _ _ _ _ _ => (pe_ix (ixK (K := K)) (pv 1) pe_int (fun _ _ => rfl)))))), ?_⟩
  obtain ⟨l, pl, dl, ps, ds, rfl, L, hz, kk⟩ := h
  refine x_body ?_
  obtain ⟨⟨dx, hi⟩, hp, hd, pok, dok, ne⟩ := id L
  walk_at "go"
  refine k_lc (walk_list (K := K) (a := pl) (xs := ps.map fun c => V.ref c.p)) [] (fun i ys H' => ys = ((ps.map (·.nm)).take i).map V.str) (fun _ _ _ _ _ => rfl) (fun i ys H' _ k _ => SqL.of (k.get hp List.not_mem_nil)) ?_ ?_
  · rintro i x ys D H1 H2 hi' hD k d l p ⟨rfl, hx⟩
    obtain ⟨c, hc, rfl⟩ := List.getElem?_map .. ▸ hx |> fun z => Option.map_eq_some_iff.mp z
    obtain ⟨y1, y2, ht⟩ := ((pok c (List.mem_of_getElem? hc)).kp k).tup
    walk_at "go"
    refine x_el hD hi' (by rw [List.length_map]; omega) l k d fun H6 _ _ => ?_
    rw [List.take_succ, List.getElem?_map, hc, List.map_append, ← p]
    rfl
  · intro D ys H' hD k d l p
    rw [p, List.length_map, ← List.length_map (f := fun c : Pc => c.nm), List.take_length] at d
    exact kk D H' k hD d
abbrev s_NoPiece_init : Stmt := inClass (top 4) 0
theorem sc_NoPiece_init : FnScope ["self", "name"] ["self", "name"] (defScope s_NoPiece_init) := ⟨rfl, rfl, rfl, by decide +kernel, rfl, by decide +kernel, by decide +kernel⟩
theorem I_NoPiece {CT D : Addr} {mc : Value} (T : OexC K CT) (GW : mg "WeldError" = some (.ref D)) (CW : CIni K D mc) (hno : PySem.W.findIn K (.ref CT) "name" = some none) (gC : mg "NoPiece" = some (.ref CT)) (M : MetAt K CT "__init__" "NoPiece.__init__" s_NoPiece_init ["self", "name"])
    (tI : ∀ f : Addr, PySem.W.isFn K (.ref f) = true → PySem.W.typeIn K (.ref f) = some (.type "function")) : ExcD P w K mg base "NoPiece" CT "name" := by
  obtain ⟨f, fd, F, hf, hi, b⟩ := M.ex
  refine ⟨gC, T, f, fd, _, hf, tI f hi, F.ok sc_NoPiece_init (fun vs H Q E h => by obtain ⟨a, v, rfl, _⟩ := h; rfl) fun cdv A outer s H vs Q E hr h => ⟨_, (pss_cons (ps_expr (pe_clsinit rfl GW CW (pa_cons (pv 0) (pa_cons pe_str pa_nil)))) (pss_one (ps_ost (pv 0) (pv 1)))), ?_⟩, b⟩
  obtain ⟨a, v, rfl, ha, k⟩ := h
  refine ⟨_, rfl, a, CT, _, rfl, Nat.le_of_ble_eq_true rfl, T, ha, ?_⟩
  exact ⟨_, rfl, _, rfl, a, CT, rfl, T, hno, .inl ⟨ha, fun dx h1 h2 => k dx h1 h2⟩⟩
abbrev s_TooMany_init : Stmt := inClass (top 6) 0
theorem sc_TooMany_init : FnScope ["self", "most"] ["self", "most"] (defScope s_TooMany_init) := ⟨rfl, rfl, rfl, by decide +kernel, rfl, by decide +kernel, by decide +kernel⟩
theorem I_TooMany {CT D : Addr} {mc : Value} (T : OexC K CT) (GW : mg "WeldError" = some (.ref D)) (CW : CIni K D mc) (hno : PySem.W.findIn K (.ref CT) "most" = some none) (gC : mg "TooMany" = some (.ref CT)) (M : MetAt K CT "__init__" "TooMany.__init__" s_TooMany_init ["self", "most"])
    (tI : ∀ f : Addr, PySem.W.isFn K (.ref f) = true → PySem.W.typeIn K (.ref f) = some (.type "function")) : ExcD P w K mg base "TooMany" CT "most" := by
  obtain ⟨f, fd, F, hf, hi, b⟩ := M.ex
  refine ⟨gC, T, f, fd, _, hf, tI f hi, F.ok sc_TooMany_init (fun vs H Q E h => by obtain ⟨a, v, rfl, _⟩ := h; rfl) fun cdv A outer s H vs Q E hr h => ⟨_, (pss_cons (ps_expr (pe_clsinit rfl GW CW (pa_cons (pv 0) (pa_cons pe_str pa_nil)))) (pss_one (ps_ost (pv 0) (pv 1)))), ?_⟩, b⟩
  obtain ⟨a, v, rfl, ha, k⟩ := h
  refine ⟨_, rfl, a, CT, _, rfl, Nat.le_of_ble_eq_true rfl, T, ha, ?_⟩
  exact ⟨_, rfl, _, rfl, a, CT, rfl, T, hno, .inl ⟨ha, fun dx h1 h2 => k dx h1 h2⟩⟩
abbrev s_Linker_len : Stmt := inClass (top 9) 2
theorem sc_Linker_len : FnScope ["self"] ["self"] (defScope s_Linker_len) := ⟨rfl, rfl, rfl, by decide +kernel, rfl, by decide +kernel, by decide +kernel⟩
theorem M_len (Z : Blt mg) (cl : Cls K C) (nP : NoAttr K C "pieces") (M : MetAt K C "__len__" "Linker.__len__" s_Linker_len ["self"]) : Met P w K mg base CX0 C "__len__" 1 (spLen C) := by
  refine M.ok sc_Linker_len (fun vs H Q E h => by obtain ⟨l, pl, dl, ps, ds, rfl, _⟩ := h; rfl) fun f cdv A outer s H vs Q E hr h => ⟨_, (pss_one (ps_ret (pe_callB (lenK (K := K)) (by rfl) Z.len PySem.boot_len (pa_cons (fldK (K := K) (pv 0) rfl) pa_nil)))), ?_⟩
  obtain ⟨l, pl, dl, ps, ds, rfl, L, kk⟩ := h
  refine x_body ?_
  obtain ⟨⟨dx, hi⟩, hp, hd, pok, dok, ne⟩ := id L
  walk_at "go"
  rw [List.length_map]
  exact kk
theorem x_refuse {Cx : Addr} {f : Str} {E : XK} {v : V} {H H1 : Hp} (k : Kp [] H H1) (h : Refused E H Cx f v) : kMk Cx f (fun cls d H' => E cls d H') [v] H1 :=
  x_mk fun d H' k' n e => h d H' (k.trans k') (k.free _ n) e
abbrev s_Linker_spot : Stmt := inClass (top 9) 4
theorem sc_Linker_spot : FnScope ["self", "name", "at", "piece"] ["self", "name"] (defScope s_Linker_spot) := ⟨rfl, rfl, rfl, by decide +kernel, rfl, by decide +kernel, by decide +kernel⟩
theorem M_spot {CN : Addr} (Z : Blt mg) (cl : Cls K C) (nP : NoAttr K C "pieces") (X_NoPiece : ExcD P w K mg base "NoPiece" CN "name") (M : MetAt K C "spot" "Linker.spot" s_Linker_spot ["self", "name"]) : Met P w K mg base (L2.CX P w) C "spot" 3 (spSpot C CN) := by
  refine M.okX sc_Linker_spot (fun vs H Q E h => by obtain ⟨l, nm, pl, dl, ps, ds, rfl, _⟩ := h; rfl) fun f cdv A outer s H vs Q E hr h => ⟨_, (pss_cons (ps_for (passes_of rfl) rfl (enumIt (K := K) (by rfl) Z.enumerate (pa_cons (fldK (K := K) (pv 0) rfl) pa_nil)) (gtupK (K := K) rfl (pgs_cons (pg_name (i := 2) sc_Linker_spot.nd rfl (Or.inl rfl)) (pgs_cons (pg_name (i := 3) sc_Linker_spot.nd rfl (Or.inl rfl)) pgs_nil))) (pss_one (ps_if (pt_cmpR (eqK (K := K) hr.units) (pe_ix (ixK (K := K)) (pv 3) pe_int (fun _ _ => rfl)) (pv 1) (nomark _)) (pss_one (ps_ret (pv 2))) pss_nil))) (pss_one (ps_rs rfl (takes_of rfl rfl rfl rfl) X_NoPiece (hr.mono (by decide)) (pa_cons (pv 1) pa_nil)))), ?_⟩
  obtain ⟨l, nm, pl, dl, ps, ds, rfl, L, hz, kk, kE⟩ := h
  refine x_body ?_
  obtain ⟨⟨dx, hi⟩, hp, hd, pok, dok, ne⟩ := id L
  walk_at "go"
  refine k_forE (fun i σ H' => ∃ v2 v3, σ = [some (.ref l), some (.str nm), v2, v3] ∧ Kp [] H H' ∧ ∀ (j : Nat) c, j < i → ps[j]? = some c → c.nm ≠ nm) ⟨none, none, rfl, Kp.refl _ _, fun j c z _ => absurd z (Nat.not_lt_zero j)⟩ (fun i σ H' _ ⟨_, _, _, k, _⟩ => SqL.of (k.get hp List.not_mem_nil)) ?_ ?_
  · rintro i x σ H1 T H2 hx ⟨v2, v3, rfl, k, no⟩ k2 nT eT
    obtain ⟨c, hc, rfl⟩ := Option.map_eq_some_iff.mp (List.getElem?_map .. ▸ hx)
    obtain ⟨y1, y2, ht⟩ := ((pok c (List.mem_of_getElem? hc)).kp (k.trans k2)).tup
    walk_at "go"
    refine k_dec (fun e => ?_) (fun e => ?_)
    · walk_at "go"
      exact kk i c _ hc e (k.trans k2)
    · walk_at "go"
      refine ⟨_, _, rfl, k.trans k2, fun j c' hj hc' => ?_⟩
      by_cases z : j = i
      · rw [z, hc] at hc'
        cases hc'
        exact e
      · exact no j c' (by omega) hc'
  · rintro σ H1 ⟨v2, v3, rfl, k, no⟩
    walk_at "go"
    refine x_refuse k (kE fun c hc => ?_)
    obtain ⟨j, hj⟩ := List.getElem?_of_mem hc
    have hl : j < ps.length := (List.getElem?_eq_some_iff.mp hj).1
    exact no j c (by rw [List.length_map]; exact hl) hj
theorem ixN_nat {n k : Nat} (h : k < n) : ixN n (k : Int) = some k := by
  unfold ixN
  rw [if_pos (by omega), if_pos (by omega)]
  rfl
theorem erase_map {α β : Type} (f : α → β) : ∀ (l : List α) (i : Nat), (l.map f).eraseIdx i = (l.eraseIdx i).map f
  | [], i => by simp
  | a :: r, 0 => by simp
  | a :: r, i + 1 => by
    have ih := erase_map f r i
    simp [ih]
theorem Lk.put {l pl dl a : Addr} {ps qs : List Pc} {ds : List Dn} {e : Dn} {H H' : Hp} (L : Lk C H l pl dl ps ds) (k : Kp [pl, dl] H H') (hp : H' pl = some (.lst (qs.map fun c => V.ref c.p))) (hd : H' dl = some (.lst ((ds.map fun e => V.ref e.a) ++ [.ref a])))
    (he : DnAt H' ⟨a, e.k, e.at_, e.pc⟩) (hq : ∀ c ∈ qs, PcAt H' c) : Lk C H' l pl dl qs (ds ++ [⟨a, e.k, e.at_, e.pc⟩]) := by
  obtain ⟨⟨dx, hi⟩, hp0, hd0, pok, dok, ne⟩ := L
  refine ⟨⟨dx, k.get hi (by walk_at "ni")⟩, hp, ?_, hq, fun x hx => ?_, ne⟩
  · rw [hd, List.map_append]
    rfl
  · rcases List.mem_append.mp hx with hx | hx
    · exact (dok x hx).kp k
    · rw [List.mem_singleton.mp hx]
      exact he
abbrev s_Linker_put : Stmt := inClass (top 9) 5
theorem sc_Linker_put : FnScope ["self", "piece"] ["self", "piece"] (defScope s_Linker_put) := ⟨rfl, rfl, rfl, by decide +kernel, rfl, by decide +kernel, by decide +kernel⟩
theorem M_put {CM CT : Addr} {tk : Tok} (Z : Blt mg) (cl : Cls K C) (nP : NoAttr K C "pieces") (nD : NoAttr K C "done") (gMP : mg "MOST_PIECES" = some (.int 30 tk)) (X_TooMany : ExcD P w K mg base "TooMany" CM "most") (X_Twin : ExcD P w K mg base "Twin" CT "name")
    (M_names : Met P w K mg base CX0 C "names" 1 (spNames C)) (M : MetAt K C "put" "Linker.put" s_Linker_put ["self", "piece"]) : Met P w K mg base (L2.CX P w) C "put" 3 (spPut C CM CT) := by
  refine M.okX sc_Linker_put (fun vs H Q E h => by obtain ⟨l, pl, dl, c, ps, ds, rfl, _⟩ := h; rfl) fun f cdv A outer s H vs Q E hr h => ⟨_, (pss_cons (ps_if (pt_cmpR op_geI (pe_callB (lenK (K := K)) (by rfl) Z.len PySem.boot_len (pa_cons (fldK (K := K) (pv 0) rfl) pa_nil)) (pe_glob (v := .int 30) rfl gMP ⟨_, rfl⟩) (nomark _)) (pss_one (ps_rs rfl (takes_of rfl rfl rfl rfl) X_TooMany (hr.mono (by decide)) (pa_cons (pe_glob (v := .int 30) rfl gMP ⟨_, rfl⟩) pa_nil))) pss_nil) (pss_cons (ps_if (pt_cmpR (inK (K := K)) (pe_ix (ixK (K := K)) (pv 1) pe_int (fun _ _ => rfl)) (pe_met0 M_names cl (hr.mono (by decide)) pass0 (pv 0)) (by rfl)) (pss_one (ps_rs rfl (takes_of rfl rfl rfl rfl) X_Twin (hr.mono (by decide)) (pa_cons (pe_ix (ixK (K := K)) (pv 1) pe_int (fun _ _ => rfl)) pa_nil))) pss_nil) (pss_cons (ps_expr (bmK (K := K) PySem.F.plainAttrs_list PySem.F.slot_list_append PySem.F.type_list_append mt_append (fldK (K := K) (pv 0) rfl) (pa_cons (pv 1) pa_nil))) (pss_one (ps_expr (bmK (K := K) PySem.F.plainAttrs_list PySem.F.slot_list_append PySem.F.type_list_append mt_append (fldK (K := K) (pv 0) rfl) (pa_cons (pe_tup (pa_cons pe_str (pa_cons (pe_op op_subI (pe_callB (lenK (K := K)) (by rfl) Z.len PySem.boot_len (pa_cons (fldK (K := K) (pv 0) rfl) pa_nil)) pe_int) (pa_cons pe_non pa_nil)))) pa_nil))))))), ?_⟩
  obtain ⟨l, pl, dl, c, ps, ds, rfl, L, hc, hz, hz2, k1, k2, k3⟩ := h
  refine x_body ?_
  obtain ⟨⟨dx, hi⟩, hp, hd, pok, dok, ne⟩ := id L
  obtain ⟨y1, y2, ht⟩ := hc.tup
  have hlen : (ps.map fun c => V.ref c.p).length = ps.length := List.length_map ..
  walk_at "go"
  refine k_dec (fun h => ?_) (fun h => ?_)
  · walk_at "go"
    exact x_refuse (Kp.refl _ _) (k1 (by omega))
  · walk_at "go"
    refine ⟨l, pl, dl, ps, ds, rfl, L, hz, fun p H1 kp hn e => ?_⟩
    have ht1 := kp.tup ht
    walk_at "go"
    refine k_dec (fun h2 => ?_) (fun h2 => ?_)
    · walk_at "go"
      exact x_refuse kp (k2 (by omega) h2)
    · walk_at "go"
      rename_i H2 kp2 e2 T H3 kp3 hn3 e3 H4 kp4 e4
      have e4' : H4 pl = some (.lst ((ps ++ [c]).map fun c => V.ref c.p)) := by
        rw [List.map_append]
        walk_at "hp"
      have kk : Kp [pl, dl] H H4 := (((kp.nil (fp := [pl, dl])).trans (kp2.mono (by simp))).trans (kp3.nil)).trans (kp4.mono (by simp))
      have e3' := kp4.tup e3
      have en : ((((ps.map fun c => V.ref c.p) ++ [V.ref c.p]).length : Nat) : Int) - 1 = (ps.length : Int) := by
        rw [List.length_append, hlen]
        simp
      rw [en] at e3'
      refine k3 (by omega) h2 T H4 kk (Lk.put (e := ⟨T, .put, ps.length, none⟩) L kk e4' e4 ⟨e3', fun c z => nomatch z⟩ fun x hx => ?_)
      · rcases List.mem_append.mp hx with hx | hx
        · exact (pok x hx).kp kk
        · rw [List.mem_singleton.mp hx]
          exact hc.kp kk
abbrev s_Linker_exchange : Stmt := inClass (top 9) 6
theorem sc_Linker_exchange : FnScope ["self", "piece", "at"] ["self", "piece"] (defScope s_Linker_exchange) := ⟨rfl, rfl, rfl, by decide +kernel, rfl, by decide +kernel, by decide +kernel⟩
theorem M_exchange {CN : Addr} (Z : Blt mg) (cl : Cls K C) (nP : NoAttr K C "pieces") (nD : NoAttr K C "done") (M_spot : Met P w K mg base (L2.CX P w) C "spot" 3 (spSpot C CN)) (M : MetAt K C "exchange" "Linker.exchange" s_Linker_exchange ["self", "piece"]) :
    Met P w K mg base (L2.CX P w) C "exchange" 4 (spExch C CN) := by
  refine M.okX sc_Linker_exchange (fun vs H Q E h => by obtain ⟨l, pl, dl, c, ps, ds, rfl, _⟩ := h; rfl) fun f cdv A outer s H vs Q E hr h => ⟨_, (pss_cons (ps_set (i := 2) sc_Linker_exchange.nd rfl (Or.inl rfl) (pe_met M_spot cl (hr.mono (by decide)) (passes_call (takes_of rfl rfl rfl rfl) fun _ _ _ _ h => h) (pv 0) (pa_cons (pe_ix (ixK (K := K)) (pv 1) pe_int (fun _ _ => rfl)) pa_nil))) (pss_cons (ps_expr (bmK (K := K) PySem.F.plainAttrs_list PySem.F.slot_list_append PySem.F.type_list_append mt_append (fldK (K := K) (pv 0) rfl) (pa_cons (pe_tup (pa_cons pe_str (pa_cons (pv 2) (pa_cons (pe_ix (ixK (K := K)) (fldK (K := K) (pv 0) rfl) (pv 2) (fun _ _ => rfl)) pa_nil)))) pa_nil))) (pss_one (ps_asg (pv 1) (pg_sub (fldK (K := K) (pv 0) rfl) (pv 2) set_list))))), ?_⟩
  obtain ⟨l, pl, dl, c, ps, ds, rfl, L, hc, hz, hz2, k1, k2⟩ := h
  refine x_body ?_
  obtain ⟨⟨dx, hi⟩, hp, hd, pok, dok, ne⟩ := id L
  obtain ⟨y1, y2, ht⟩ := hc.tup
  have hlen : (ps.map fun c => V.ref c.p).length = ps.length := List.length_map ..
  walk_at "go"
  refine ⟨l, c.nm, pl, dl, ps, ds, rfl, L, hz, fun i o H1 ho en kp => ?_, fun no => k2 no⟩
  have hil : i < ps.length := (List.getElem?_eq_some_iff.mp ho).1
  have hix : atI (ps.map fun c => V.ref c.p) (i : Int) = some (V.ref o.p) := atI_nat (by rw [List.getElem?_map, ho]; rfl)
  have ho1 : PcAt H1 o := (pok o (List.mem_of_getElem? ho)).kp kp
  walk_at "go"
  refine x_ixL (by walk_at "sq") hix ?_
  walk_at "go"
  rename_i T H2 kp2 hn2 e2 H3 kp3 e3
  have hp3 : H3 pl = some (.lst (ps.map fun c => V.ref c.p)) := by walk_at "hp"
  have hi3 : H3 l = some (.ins C dx (lf pl dl)) := by walk_at "hp"
  refine x_setL hp3 (ixN_nat (k := i) (by rw [hlen]; exact hil)) fun H4 kp4 e4 => ?_
  have e3' : H4 dl = some (.lst ((ds.map fun e => V.ref e.a) ++ [V.ref T])) := by walk_at "hp"
  have e2' : H4 T = some (.tup [.str "exchanged", .int (i : Int), .ref o.p]) := by walk_at "hp"
  have ho4 : PcAt H4 o := ((ho1.kp kp2).kp kp3).kp kp4
  have kk : Kp [pl, dl] H H4 := (((kp.nil (fp := [pl, dl])).trans kp2.nil).trans (kp3.mono (by simp))).trans (kp4.mono (by simp))
  refine k1 i o T H4 ho en kk (Lk.put (e := ⟨T, .exch, i, some o⟩) L kk (by rw [e4, List.map_set]) e3' ⟨e2', fun c' z => by cases z; exact ho4⟩ fun x hx => ?_)
  rcases List.mem_or_eq_of_mem_set hx with hx | hx
  · exact (pok x hx).kp kk
  · rw [hx]
    exact hc.kp kk
abbrev s_Linker_take_out : Stmt := inClass (top 9) 7
theorem sc_Linker_take_out : FnScope ["self", "name", "at"] ["self", "name"] (defScope s_Linker_take_out) := ⟨rfl, rfl, rfl, by decide +kernel, rfl, by decide +kernel, by decide +kernel⟩
theorem M_take_out {CN : Addr} (Z : Blt mg) (cl : Cls K C) (nP : NoAttr K C "pieces") (nD : NoAttr K C "done") (M_spot : Met P w K mg base (L2.CX P w) C "spot" 3 (spSpot C CN)) (M : MetAt K C "take_out" "Linker.take_out" s_Linker_take_out ["self", "name"]) :
    Met P w K mg base (L2.CX P w) C "take_out" 4 (spTake C CN) := by
  refine M.okX sc_Linker_take_out (fun vs H Q E h => by obtain ⟨l, pl, dl, c, ps, ds, rfl, _⟩ := h; rfl) fun f cdv A outer s H vs Q E hr h => ⟨_, (pss_cons (ps_set (i := 2) sc_Linker_take_out.nd rfl (Or.inl rfl) (pe_met M_spot cl (hr.mono (by decide)) (passes_call (takes_of rfl rfl rfl rfl) fun _ _ _ _ h => h) (pv 0) (pa_cons (pv 1) pa_nil))) (pss_one (ps_expr (bmK (K := K) PySem.F.plainAttrs_list PySem.F.slot_list_append PySem.F.type_list_append mt_append (fldK (K := K) (pv 0) rfl) (pa_cons (pe_tup (pa_cons pe_str (pa_cons (pv 2) (pa_cons (bmK (K := K) PySem.F.plainAttrs_list PySem.F.slot_list_pop PySem.F.type_list_pop mt_popAt (fldK (K := K) (pv 0) rfl) (pa_cons (pv 2) pa_nil)) pa_nil)))) pa_nil))))), ?_⟩
  obtain ⟨l, pl, dl, nm, ps, ds, rfl, L, hz, hz2, k1, k2⟩ := h
  refine x_body ?_
  obtain ⟨⟨dx, hi⟩, hp, hd, pok, dok, ne⟩ := id L
  have hlen : (ps.map fun c => V.ref c.p).length = ps.length := List.length_map ..
  walk_at "go"
  refine ⟨l, nm, pl, dl, ps, ds, rfl, L, hz, fun i o H1 ho en kp => ?_, fun no => k2 no⟩
  have hil : i < ps.length := (List.getElem?_eq_some_iff.mp ho).1
  have ho1 : PcAt H1 o := (pok o (List.mem_of_getElem? ho)).kp kp
  walk_at "go"
  refine x_popAt (by walk_at "hp") (by rw [List.getElem?_map, ho]; rfl) (by omega) fun H2 kp2 e2 => ?_
  walk_at "go"
  rename_i T H3 kp3 hn3 e3 H4 kp4 e4
  have e2' : H4 pl = some (.lst ((ps.map fun c => V.ref c.p).eraseIdx i)) := by walk_at "hp"
  have e3' : H4 T = some (.tup [.str "taken", .int (i : Int), .ref o.p]) := by walk_at "hp"
  have ho4 : PcAt H4 o := ((ho1.kp kp2).kp kp3).kp kp4
  have kk : Kp [pl, dl] H H4 := (((kp.nil (fp := [pl, dl])).trans (kp2.mono (by simp))).trans kp3.nil).trans (kp4.mono (by simp))
  refine k1 i o T H4 ho en kk (Lk.put (e := ⟨T, .take, i, some o⟩) L kk (by rw [e2', erase_map]) e4 ⟨e3', fun c' z => by cases z; exact ho4⟩ fun x hx => ?_)
  exact (pok x (List.mem_of_mem_eraseIdx hx)).kp kk
theorem tpAll_map {α : Type} {H : Hp} (f : α → V) (g : α → PyData) : ∀ {l : List α}, (∀ x ∈ l, Tp H (f x) (g x)) → TpAll H (l.map f) (l.map g)
  | [], _ => .nil
  | a :: l, h => .cons (h a List.mem_cons_self) (tpAll_map f g fun x hx => h x (List.mem_cons_of_mem _ hx))
theorem dp_list {K : PySem.W.Frag} {α : Type} {H : Hp} {a : Addr} {f : α → V} {g : α → PyData} {l : List α} (e : H a = some (.lst (l.map f))) (h : ∀ x ∈ l, Tp H (f x) (g x)) : Dp K H (.ref a) (.list (l.map g)) := .lst (SqL.of e) (tpAll_map f g h).dp
theorem shp_list {α : Type} {n : Nat} {g : α → PyData} {l : List α} (h : ∀ x ∈ l, Shp n (g x)) : Shp (n + 1) (.list (l.map g)) := Shp.list fun d hd => by
  obtain ⟨x, hx, rfl⟩ := List.mem_map.mp hd
  exact h x hx
abbrev s_Linker_eq : Stmt := inClass (top 9) 1
theorem sc_Linker_eq : FnScope ["self", "other"] ["self", "other"] (defScope s_Linker_eq) := ⟨rfl, rfl, rfl, by decide +kernel, rfl, by decide +kernel, by decide +kernel⟩
theorem M_eq (Z : Blt mg) (cl : Cls K C) (nP : NoAttr K C "pieces") (gL : mg "Linker" = some (.ref C)) (ti : ∀ (H : Hp) (l pl dl dx : Addr), H l = some (.ins C dx (lf pl dl)) → TyX K H (.ref l) (.ref C)) (kit : PySem.W.kitOne K (.ref C) (.ref C) = some true)
    (M : MetAt K C "__eq__" "Linker.__eq__" s_Linker_eq ["self", "other"]) : Met P w K mg base CX0 C "__eq__" 1 (spEqL C) := by
  refine M.ok sc_Linker_eq (fun vs H Q E h => by obtain ⟨l, pl, dl, m, ql, el, ps, qs, ds, es, rfl, _⟩ := h; rfl) fun f cdv A outer s H vs Q E hr h => ⟨_, (pss_one (ps_ret (pe_and (pe_callB (isiK (K := K)) (by rfl) Z.isinstance (by decide +kernel) (pa_cons (pv 1) (pa_cons (pe_glob (v := .ref _) rfl gL rfl) pa_nil))) (pe_one (pe_cmpR (eqK (K := K) hr.units) (fldK (K := K) (pv 0) rfl) (fldK (K := K) (pv 1) rfl) (nomark _)))))), ?_⟩
  obtain ⟨l, pl, dl, m, ql, el, ps, qs, ds, es, rfl, L, L', kk⟩ := h
  refine x_body ?_
  obtain ⟨⟨dx, hi⟩, hp, hd, pok, dok, ne⟩ := id L
  obtain ⟨⟨dx', hi'⟩, hp', hd', pok', dok', ne'⟩ := id L'
  walk_at "go"
  refine ⟨_, _, _, _, true, rfl, .own C, ti _ _ _ _ _ hi', kit, ?_⟩
  walk_at "go"
  refine x_eqD (dp_list hp fun c hc => (pok c hc).dat) (dp_list hp' fun c hc => (pok' c hc).dat) ((shp_list fun c hc => (pok c hc).shp).mono (by decide)) ((shp_list fun c hc => (pok' c hc).shp).mono (by decide)) kk
abbrev s_Linker_undo : Stmt := inClass (top 9) 8
theorem sc_Linker_undo : FnScope ["self", "word", "at", "piece"] ["self"] (defScope s_Linker_undo) := ⟨rfl, rfl, rfl, by decide +kernel, rfl, by decide +kernel, by decide +kernel⟩
theorem M_undo (Z : Blt mg) (cl : Cls K C) (nP : NoAttr K C "pieces") (nD : NoAttr K C "done") (M : MetAt K C "undo" "Linker.undo" s_Linker_undo ["self"]) : Met P w K mg base CX0 C "undo" 1 (spUndo C) := by
  refine M.ok sc_Linker_undo (fun vs H Q E h => by obtain ⟨l, pl, dl, ps, ds, rfl, _⟩ := h; rfl) fun f cdv A outer s H vs Q E hr h => ⟨_, (pss_cons (ps_if (pt_cmpR (eqK (K := K) hr.units) (fldK (K := K) (pv 0) rfl) (pe_lst pa_nil) (nomark _)) (pss_one (ps_ret pe_non)) pss_nil) (pss_cons (ps_asg (bm0K (K := K) PySem.F.plainAttrs_list PySem.F.slot_list_pop PySem.F.type_list_pop mt_pop (fldK (K := K) (pv 0) rfl)) (gtupK (K := K) rfl (pgs_cons (pg_name (i := 1) sc_Linker_undo.nd rfl (Or.inl rfl)) (pgs_cons (pg_name (i := 2) sc_Linker_undo.nd rfl (Or.inl rfl)) (pgs_cons (pg_name (i := 3) sc_Linker_undo.nd rfl (Or.inl rfl)) pgs_nil))))) (pss_cons (ps_if (pt_cmpR (eqK (K := K) hr.units) (pv 1) pe_str (nomark _)) (pss_one (ps_expr (bmK (K := K) PySem.F.plainAttrs_list PySem.F.slot_list_pop PySem.F.type_list_pop mt_popAt (fldK (K := K) (pv 0) rfl) (pa_cons (pv 2) pa_nil)))) (pss_one (ps_if (pt_cmpR (eqK (K := K) hr.units) (pv 1) pe_str (nomark _)) (pss_one (ps_asg (pv 3) (pg_sub (fldK (K := K) (pv 0) rfl) (pv 2) set_list))) (pss_one (ps_expr (bmK (K := K) PySem.F.plainAttrs_list PySem.F.slot_list_insert PySem.F.type_list_insert mt_ins (fldK (K := K) (pv 0) rfl) (pa_cons (pv 2) (pa_cons (pv 3) pa_nil)))))))) (pss_one (ps_ret (pv 1)))))), ?_⟩
  obtain ⟨l, pl, dl, ps, ds, rfl, L, hz, k0, k1⟩ := h
  refine x_body ?_
  obtain ⟨⟨dx, hi⟩, hp, hd, pok, dok, ne⟩ := id L
  have hlen : (ps.map fun c => V.ref c.p).length = ps.length := List.length_map ..
  walk_at "go"
  rename_i q Hq kq nq eq
  have hdq : Hq dl = some (.lst (ds.map fun e => V.ref e.a)) := by walk_at "hp"
  refine x_eqD (dp_list hdq fun e he => ((dok e he).kp kq).tp) (.lst (SqL.of eq) .nil) ((shp_list fun e he => (dok e he).shp).mono (by decide)) ((Shp.list (n := 1) (ds := []) fun _ z => nomatch z).mono (by decide)) ?_
  rcases List.eq_nil_or_concat ds with e0 | ⟨es, e, e0⟩
  · walk_at "go"
    refine k_bT (by rw [e0]; rfl) ?_
    walk_at "go"
    exact k0 e0 Hq kq
  · rw [List.concat_eq_append] at e0
    walk_at "go"
    refine k_bF (by rw [e0, PyData.eqv]; cases es <;> rfl) ?_
    obtain ⟨qs, hu, kk⟩ := k1 es e e0
    have hde := dok e (by rw [e0]; simp)
    walk_at "go"
    refine x_pop (y := .ref e.a) hdq (by rw [e0]; simp) fun H1 kp1 e1 => ?_
    have ht1 : H1 e.a = some (.tup [.str e.k.w, .int (e.at_ : Int), pcV e.pc]) := kp1.tup (kq.tup hde.tup)
    have hp1 : H1 pl = some (.lst (ps.map fun c => V.ref c.p)) := by walk_at "hp"
    have hi1 : H1 l = some (.ins C dx (lf pl dl)) := by walk_at "hp"
    have hk1 : Kp [pl, dl] H H1 := (kq.nil (fp := [pl, dl])).trans (kp1.mono (by simp))
    have hd1 : H1 dl = some (.lst (es.map fun e => V.ref e.a)) := by
      rw [e1, e0, List.map_append, List.map_singleton, List.dropLast_concat]
    have hlk : ∀ (qs : List Pc) (H2 : Hp), Kp [pl] H1 H2 → H2 pl = some (.lst (qs.map fun c => V.ref c.p)) → (∀ c ∈ qs, PcAt H2 c) → Lk C H2 l pl dl qs es := fun qs H2 k2 e2 hq =>
      ⟨⟨dx, by walk_at "hp"⟩, e2, by walk_at "hp", hq, fun x hx => (dok x (by rw [e0]; simp [hx])).kp (hk1.trans (k2.mono (by simp))), ne⟩
    have hkk : ∀ {H2 : Hp}, Kp [pl] H1 H2 → Kp [pl, dl] H H2 := fun k2 => hk1.trans (k2.mono (by simp))
    walk_at "go"
    obtain ⟨ea, ek, eat, epc⟩ := e
    cases ek with
    | put =>
      obtain ⟨hlt, rfl⟩ : eat < ps.length ∧ qs = ps.eraseIdx eat := hu
      refine k_is rfl ?_
      walk_at "go"
      refine x_popAt (k := eat) hp1 (by rw [List.getElem?_map, List.getElem?_eq_getElem hlt]; rfl) (by omega) fun H2 k2 e2 => ?_
      walk_at "go"
      exact kk H2 (hkk k2) (hlk _ H2 k2 (by rw [e2, erase_map]) fun c hc => (pok c (List.mem_of_mem_eraseIdx hc)).kp (hkk k2))
    | exch =>
      cases epc with
      | none => exact (show False from hu).elim
      | some c =>
        obtain ⟨hlt, rfl⟩ : eat < ps.length ∧ qs = ps.set eat c := hu
        refine k_no (show ¬ ("exchanged" : Str) = "put" by decide +kernel) ?_
        walk_at "go"
        refine k_is rfl ?_
        walk_at "go"
        refine x_setL hp1 (ixN_nat (k := eat) (by rw [hlen]; exact hlt)) fun H2 k2 e2 => ?_
        walk_at "go"
        refine kk H2 (hkk k2) (hlk _ H2 k2 (by rw [e2, List.map_set]; rfl) fun x hx => ?_)
        rcases List.mem_or_eq_of_mem_set hx with hx | hx
        · exact (pok x hx).kp (hkk k2)
        · rw [hx]
          exact (hde.pc c rfl).kp (hkk k2)
    | take =>
      cases epc with
      | none => exact (show False from hu).elim
      | some c =>
        obtain ⟨hlt, rfl⟩ : eat ≤ ps.length ∧ qs = ps.take eat ++ [c] ++ ps.drop eat := hu
        refine k_no (show ¬ ("taken" : Str) = "put" by decide +kernel) ?_
        walk_at "go"
        refine k_no (show ¬ ("taken" : Str) = "exchanged" by decide +kernel) ?_
        walk_at "go"
        refine x_insert (k := eat) hp1 (by rw [hlen]; omega) (by omega) fun H2 k2 e2 => ?_
        walk_at "go"
        refine kk H2 (hkk k2) (hlk _ H2 k2 (by rw [e2, List.map_append, List.map_append, List.map_take, List.map_drop]; rfl) fun x hx => ?_)
        rcases List.mem_append.mp hx with hx | hx
        · rcases List.mem_append.mp hx with hx | hx
          · exact (pok x (List.mem_of_mem_take hx)).kp (hkk k2)
          · rw [List.mem_singleton.mp hx]
            exact (hde.pc c rfl).kp (hkk k2)
        · exact (pok x (List.mem_of_mem_drop hx)).kp (hkk k2)
end
end WM
set_option Elab.async false
set_option linter.all false
set_option maxRecDepth 100000
set_option maxHeartbeats 2000000
namespace WM
open PySem PySem.Spec PyProof.Rows L2
local macro_rules | `(tactic| walk_at "ne") => `(tactic| first | assumption | exact Ne.symm (by assumption) | exact ne_fresh (by assumption) (by walk_at "hp") | exact (ne_fresh (by assumption) (by walk_at "hp")).symm | exact ne_kind (by walk_at "hp") (by walk_at "hp") (by intro z; cases z))
local macro_rules | `(tactic| walk_at "ni") => `(tactic| first | exact List.not_mem_nil | assumption | exact ni1 (by walk_at "ne") | exact ni2 (by walk_at "ne") (by walk_at "ne") | exact ni3 (by walk_at "ne") (by walk_at "ne") (by walk_at "ne"))
local macro_rules | `(tactic| walk_at "hp") => `(tactic| first | assumption | exact upd_same | (apply upd_getN; (assumption); (walk_at "hp")) | (apply Kp.tup; (assumption); (walk_at "hp")) | (apply Kp.get; (assumption); (walk_at "hp"); (walk_at "ni")))
local macro_rules | `(tactic| walk_at "sq") => `(tactic| first | assumption | exact SqL.of (by walk_at "hp") | (apply Kp.sqL; (assumption); (walk_at "sq"); (walk_at "ni")))
local macro_rules | `(tactic| walk_at "kp") => `(tactic| first | exact Kp.refl _ _ | assumption | exact Kp.nil (by assumption) | (refine' Kp.step (by assumption) ?_ (by first | exact fun _ z => z | exact fun _ z => nomatch z | simp); walk_at "kp"))
local macro_rules | `(tactic| walk_at "tp") => `(tactic| first | assumption | exact Tp.non | exact Tp.bl _ | exact Tp.int _ | exact Tp.str _ | (apply Tp.tup; (walk_at "hp"); (walk_at "tps")) | (apply Tp.kp; (assumption); (walk_at "tp")))
local macro_rules | `(tactic| walk_at "tps") => `(tactic| first | exact TpAll.nil | (refine TpAll.cons ?_ ?_; (walk_at "tp"); (walk_at "tps")))
local macro_rules | `(tactic| walk_at "lk") => `(tactic| first | assumption | rfl)
local macro_rules | `(tactic| walk_at "go1") => `(tactic| first | with_reducible refine x_seq ?_ | with_reducible refine x_asg ?_ | with_reducible refine x_drop ?_ | with_reducible refine x_ret ?_ | with_reducible refine x_if ?_ | with_reducible refine x_next ?_ | with_reducible refine x_par ?_ | with_reducible refine x_par3 ?_ | with_reducible refine x_two ?_ | with_reducible refine x_three ?_ | with_reducible refine x_sfld ?_ | with_reducible refine x_retN ?_ | with_reducible refine x_brk ?_ | with_reducible refine x_name ?_ | with_reducible refine x_gsub ?_ | with_reducible refine x_gcons ?_ | with_reducible refine x_gnil ?_ | ((with_reducible apply x_gtup); (walk_at "hp"); exact rfl) | ((with_reducible apply x_var); exact rfl) | with_reducible refine x_c ?_ | with_reducible refine x_op ?_ | with_reducible refine x_un ?_ | with_reducible refine x_nil ?_ | with_reducible refine x_cons ?_ | with_reducible refine x_tup ?_ | with_reducible refine x_lst ?_ | with_reducible refine x_fldE ?_ | ((with_reducible apply x_fld); (walk_at "hp"); assumption; assumption; (walk_at "lk")) | with_reducible refine x_cal ?_ | with_reducible refine x_metE ?_ | with_reducible refine x_calS ?_ | with_reducible refine x_metS ?_ | ((with_reducible apply x_met); (walk_at "hp"); (walk_at "lk")) | with_reducible refine x_newI ?_ | with_reducible refine x_cb ?_ | with_reducible refine x_bm ?_ | with_reducible refine x_bm0 ?_ | ((with_reducible apply x_bmL); (walk_at "hp")) | with_reducible refine x_sl ?_ | with_reducible refine x_nop ?_ | with_reducible refine x_part ?_ | with_reducible refine x_kP ?_ | with_reducible refine x_ife ?_ | with_reducible refine x_andV ?_ | with_reducible refine x_orV ?_ | with_reducible refine x_notV ?_ | with_reducible refine x_test ?_ | with_reducible refine x_tB ?_ | with_reducible refine x_kB ?_ | with_reducible refine x_and ?_ | with_reducible refine x_or ?_ | with_reducible refine x_not ?_ | with_reducible refine k_T ?_ | with_reducible refine k_F ?_ | with_reducible refine k_not ?_ | walk_at "go2")
local macro_rules | `(tactic| walk_at "go2") => `(tactic| first | ((with_reducible apply x_setF); (walk_at "hp"); assumption; assumption; exact Nat.le_of_ble_eq_true rfl; exact rfl; intro _ _ _) | ((with_reducible apply x_append); (walk_at "hp"); (first | omega | (simp; omega)); intro _ _ _) | ((with_reducible apply x_setL); (walk_at "hp"); exact rfl; intro _ _ _) | with_reducible refine x_addI ?_ | with_reducible refine x_cmp ?_ | with_reducible refine x_subI ?_ | with_reducible refine x_eqI ?_ | with_reducible refine x_eqS ?_ | with_reducible refine x_neI ?_ | with_reducible refine x_neS ?_ | with_reducible refine x_isNo ?_ | with_reducible refine x_notNo ?_ | ((with_reducible apply x_modI); (first | omega | decide)) | ((with_reducible apply x_divI); (first | omega | decide); (first | omega | decide)) | ((with_reducible apply x_mulI); (first | exact .inl ⟨by omega, by omega⟩ | exact .inr ⟨by decide, by decide⟩ | exact .inr ⟨by omega, by omega⟩)) | ((with_reducible apply x_powI); exact ⟨by decide, by decide, by decide⟩) | ((with_reducible apply x_ixT); (walk_at "hp"); exact rfl) | ((with_reducible apply x_ixL); (walk_at "sq"); exact rfl) | ((with_reducible apply x_lenL); (walk_at "sq")) | ((with_reducible apply x_newT); exact Nat.le_of_ble_eq_true rfl; intro _ _ _ _ _) | ((with_reducible apply x_newL); exact Nat.le_of_ble_eq_true rfl; intro _ _ _ _ _) | with_reducible refine x_for ?_ | with_reducible refine x_iL ?_ | with_reducible refine x_iR1 ?_ | with_reducible refine x_iR2 ?_ | with_reducible refine x_iE ?_ | ((with_reducible apply x_kIL); (walk_at "sq")) | ((with_reducible apply x_kE); (walk_at "sq")) | with_reducible refine x_lc ?_ | with_reducible refine x_yes ?_ | ((with_reducible apply x_wp); exact rfl))
local macro_rules | `(tactic| walk_at "go") => `(tactic| (walk_at "go1"; repeat walk_at "go1"))
local macro_rules | `(tactic| walk_at "fr") => `(tactic| first | assumption | exact Kp.free (by assumption) _ (by walk_at "fr"))
local macro_rules | `(tactic| walk_at "lk") => `(tactic| first | exact lf_p _ _ | exact lf_d _ _ | exact lf_no _ _ (by decide +kernel) (by decide +kernel))
local macro_rules | `(tactic| walk_at "go1") => `(tactic| first | with_reducible refine x_rs ?_ | ((with_reducible apply x_niS); (walk_at "sq")) | ((with_reducible apply x_inS); (walk_at "sq")))
/-! ### names -/
structure NmOk (x : Str) : Prop where
  ok : PyData.strOk x = true
  sh : x.length ≤ 20
/-- a name that is not 'good' -/
structure NmG (x : Str) : Prop where
  ok : NmOk x
  n4 : x.length ≠ 4
  n6 : x.length ≠ 6
theorem strOk_iff {x : Str} : PyData.strOk x = true ↔ ∀ c ∈ x.cps.toList, c < 0x110000 := by
  show x.cps.all (fun c => decide (c < 0x110000)) = true ↔ _
  rw [← Array.all_toList, List.all_eq_true]
  exact ⟨fun h c hc => of_decide_eq_true (h c hc), fun h c hc => decide_eq_true (h c hc)⟩
theorem app_cps (x y : Str) : (x ++ y).cps.toList = x.cps.toList ++ y.cps.toList := by
  show (x.cps ++ y.cps).toList = _
  exact Array.toList_append ..
theorem len_cps (x : Str) : x.length = x.cps.toList.length := by
  show x.cps.size = _
  exact (Array.length_toList ..).symm
theorem len_app (x y : Str) : (x ++ y).length = x.length + y.length := by rw [len_cps, app_cps, List.length_append, ← len_cps, ← len_cps]
theorem ok_app {x y : Str} (h : PyData.strOk x = true) (h' : PyData.strOk y = true) : PyData.strOk (x ++ y) = true := by
  rw [strOk_iff] at h h' ⊢
  rw [app_cps]
  intro c hc
  rcases List.mem_append.mp hc with hc | hc
  · exact h c hc
  · exact h' c hc
/-! ### what a written small piece is -/
def pcData (nm : Str) (r : Int) : PyData := .tuple [.str nm, .tuple [.tuple [.str "s", .str "data", .int 1, .tuple [.tuple [.str "cell", .int r]]]], .tuple []]
theorem shp_piece {nm : Str} {r : Int} (h : PyData.strOk nm = true) : Shp 20 (pcData nm r) := by
  have hs : PyData.strOk "s" = true := by decide +kernel
  have hd : PyData.strOk "data" = true := by decide +kernel
  have hc : PyData.strOk "cell" = true := by decide +kernel
  refine ⟨?_, ?_⟩
  · simp only [pcData, PyData.canLay0, PyData.canLayAll0, h, hs, hd, hc, Bool.and_self]
  · simp only [pcData, PyData.depth, PyData.depthAll]
    decide
section
variable {P : Program} {w : World} {K : PySem.W.Frag} {mg : Str → Option Value} {base : Heap} {C : Addr}
def spPiece (K : PySem.W.Frag) : Sp := fun vs H Q _ => ∃ (pn : Addr) (nm : Str), vs = [.ref pn, .str nm] ∧ Pen K H pn ∧ NmOk nm ∧ ∀ c H', c.nm = nm → Kp [pn] H H' → Pen K H' pn → PcAt H' c → Q (.ref c.p) H'
theorem Pen.kp {fp : List Addr} {H H' : Hp} {pn : Addr} (k : Kp fp H H') (h : Pen K H pn) (n : pn ∉ fp) (hf : ∀ b ∈ fp, ∃ ys, H b = some (.lst ys)) : Pen K H' pn := by
  obtain ⟨sc, xs, a, c, e, s, l, p⟩ := h
  exact ⟨sc, xs, a, c, k.get e n, s.kp k hf, l, p⟩
theorem Pen.kp0 {H H' : Hp} {pn : Addr} (k : Kp [] H H') (h : Pen K H pn) : Pen K H' pn := h.kp k List.not_mem_nil fun _ z => nomatch z
abbrev s_e_piece : Stmt := top 13
theorem sc_e_piece : FnScope ["pen", "name"] ["pen", "name"] (defScope s_e_piece) := ⟨rfl, rfl, rfl, by decide +kernel, rfl, by decide +kernel, by decide +kernel⟩
theorem D_piece (D_next : Def P w K mg base CX0 "_law_next" 2 (spNext K)) (D : DefAt K mg "_law_e_piece" s_e_piece ["pen", "name"]) : Def P w K mg base CX0 "_law_e_piece" 3 (spPiece K) := by
  refine D.ok sc_e_piece (fun vs H Q E h => by obtain ⟨c, a, rfl, _⟩ := h; rfl) fun f cdv A outer s H vs Q E hr h => ⟨_, (pss_one (ps_ret (pe_tup (pa_cons (pv 1) (pa_cons (pe_tup (pa_cons (pe_tup (pa_cons pe_str (pa_cons pe_str (pa_cons pe_int (pa_cons (pe_tup (pa_cons (pe_tup (pa_cons pe_str (pa_cons (pe_def D_next (hr.mono (by decide)) pass0 (pa_cons (pv 0) (pa_cons pe_int pa_nil))) pa_nil))) pa_nil)) pa_nil))))) pa_nil)) (pa_cons (pe_tup pa_nil) pa_nil)))))), ?_⟩
  obtain ⟨pn, nm, rfl, hp, hn, k⟩ := h
  refine x_body ?_
  walk_at "go"
  refine ⟨pn, 6, rfl, hp, by decide, by decide, fun r H1 h0 h1 k1 hp1 => ?_⟩
  walk_at "go"
  rename_i p1 H2 k2 n2 e2 p2 H3 k3 n3 e3 p3 H4 k4 n4 e4 p4 H5 k5 n5 e5 p5 H6 k6 n6 e6 p6 H7 k7 n7 e7
  refine k ⟨p6, nm, pcData nm r⟩ H7 rfl (by walk_at "kp") ?_ ⟨⟨_, _, e7⟩, ?_, shp_piece hn.ok⟩
  · exact (((((hp1.kp0 k2).kp0 k3).kp0 k4).kp0 k5).kp0 k6).kp0 k7
  · walk_at "tp"
theorem letter_at {r : Int} (h0 : 0 ≤ r) (h1 : r < 26) : ∃ c, atI (("abcdefghijklmnopqrstuvwxyz" : Str).cps.toList) r = some c ∧ c < 0x110000 := by
  obtain ⟨j, rfl⟩ := Int.eq_ofNat_of_zero_le h0
  have hl : (("abcdefghijklmnopqrstuvwxyz" : Str).cps.toList).length = 26 := by decide +kernel
  have hall : ∀ c ∈ ("abcdefghijklmnopqrstuvwxyz" : Str).cps.toList, c < 0x110000 := by decide +kernel
  have hj : j < (("abcdefghijklmnopqrstuvwxyz" : Str).cps.toList).length := by rw [hl]; omega
  exact ⟨_, atI_nat (List.getElem?_eq_getElem hj), hall _ (List.getElem_mem hj)⟩
theorem ok_one {c : Nat} (h : c < 0x110000) : NmOk ⟨#[c]⟩ := ⟨by rw [strOk_iff]; intro d hd; simp at hd; rw [hd]; exact h, Nat.le_of_ble_eq_true rfl⟩
theorem NmOk.app {x y : Str} (h : NmOk x) (h' : NmOk y) (l : x.length + y.length ≤ 20) : NmOk (x ++ y) := ⟨ok_app h.ok h'.ok, by rw [len_app]; exact l⟩
def zs : Str := ⟨(List.replicate (Int.toNat 15) ("z" : Str).cps).foldl (· ++ ·) #[]⟩
theorem zs_len : zs.length = 15 := by decide +kernel
theorem zs_ok : NmOk zs := ⟨by decide +kernel, by rw [zs_len]; decide⟩
def spNms (K : PySem.W.Frag) : Sp := fun vs H Q _ => ∃ (pn : Addr), vs = [.ref pn] ∧ Pen K H pn ∧ ∀ p (xs : List Str) H', Kp [pn] H H' → Pen K H' pn → H p = none → H' p = some (.lst (xs.map V.str)) → xs.length = 6 → (∀ x ∈ xs, NmG x) → Q (.ref p) H'
abbrev s_e_names : Stmt := top 14
theorem sc_e_names : FnScope ["pen", "first"] ["pen"] (defScope s_e_names) := ⟨rfl, rfl, rfl, by decide +kernel, rfl, by decide +kernel, by decide +kernel⟩
theorem D_names (D_next : Def P w K mg base CX0 "_law_next" 2 (spNext K)) (D : DefAt K mg "_law_e_names" s_e_names ["pen"]) : Def P w K mg base CX0 "_law_e_names" 3 (spNms K) := by
  refine D.ok sc_e_names (fun vs H Q E h => by obtain ⟨a, rfl, _⟩ := h; rfl) fun f cdv A outer s H vs Q E hr h => ⟨_, (pss_cons (ps_set (i := 1) sc_e_names.nd rfl (Or.inl rfl) (pe_ix (ixK (K := K)) pe_str (pe_def D_next (hr.mono (by decide)) pass0 (pa_cons (pv 0) (pa_cons pe_int pa_nil))) (fun _ _ => rfl))) (pss_one (ps_ret (pe_lst (pa_cons (pv 1) (pa_cons (pe_op op_addA (pv 1) (pv 1)) (pa_cons (pe_op op_addA (pv 1) pe_str) (pa_cons (pe_op op_addA (pv 1) pe_str) (pa_cons (pe_op op_addA (pv 1) (pe_op op_mulS pe_str pe_int)) (pa_cons (pe_op op_addA pe_str (pv 1)) pa_nil)))))))))), ?_⟩
  obtain ⟨pn, rfl, hp, k⟩ := h
  refine x_body ?_
  walk_at "go"
  refine ⟨pn, 26, rfl, hp, by decide, by decide, fun r H1 h0 h1 k1 hp1 => ?_⟩
  obtain ⟨c, hc, hlt⟩ := letter_at h0 h1
  refine x_ixS (Nat.le_trans (show _ ≤ 26 by decide +kernel) (by decide)) hc ?_
  have o1 := ok_one hlt
  have l1 : (Str.mk #[c]).length = 1 := rfl
  have q1 : NmOk "1" := ⟨by decide +kernel, by decide +kernel⟩
  have q12 : NmOk "12" := ⟨by decide +kernel, by decide +kernel⟩
  have qz : NmOk "z" := ⟨by decide +kernel, by decide +kernel⟩
  have m1 : ("1" : Str).length = 1 := by decide +kernel
  have m12 : ("12" : Str).length = 2 := by decide +kernel
  have mz : ("z" : Str).length = 1 := by decide +kernel
  walk_at "go"
  refine x_addS (by omega) ?_
  walk_at "go"
  refine x_addS (by omega) ?_
  walk_at "go"
  refine x_addS (by omega) ?_
  walk_at "go"
  refine x_mulS (by decide) (by decide) (by omega) (by omega) ?_
  refine x_addS (by show _ + zs.length ≤ _; rw [zs_len]; omega) ?_
  walk_at "go"
  refine x_addS (by omega) ?_
  walk_at "go"
  rename_i p H2 k2 n2 e2
  refine k p [Str.mk #[c], Str.mk #[c] ++ Str.mk #[c], Str.mk #[c] ++ "1", Str.mk #[c] ++ "12", Str.mk #[c] ++ zs, "z" ++ Str.mk #[c]] H2 (by walk_at "kp") (hp1.kp0 k2) (by walk_at "fr") e2 rfl ?_
  intro x hx
  simp only [List.mem_cons, List.not_mem_nil, or_false] at hx
  rcases hx with rfl | rfl | rfl | rfl | rfl | rfl
  · exact ⟨o1, by omega, by omega⟩
  · exact ⟨o1.app o1 (by omega), by rw [len_app]; omega, by rw [len_app]; omega⟩
  · exact ⟨o1.app q1 (by omega), by rw [len_app]; omega, by rw [len_app]; omega⟩
  · exact ⟨o1.app q12 (by omega), by rw [len_app]; omega, by rw [len_app]; omega⟩
  · exact ⟨o1.app zs_ok (by rw [zs_len]; omega), by rw [len_app, zs_len]; omega, by rw [len_app, zs_len]; omega⟩
  · exact ⟨qz.app o1 (by omega), by rw [len_app]; omega, by rw [len_app]; omega⟩
/-- rows: a list of pieces -/
structure Rows (H : Hp) (r : Addr) (ps : List Pc) : Prop where
  lst : H r = some (.lst (ps.map fun c => V.ref c.p))
  ok : ∀ c ∈ ps, PcAt H c
theorem Rows.kp {fp : List Addr} {H H' : Hp} {r : Addr} {ps : List Pc} (k : Kp fp H H') (h : Rows H r ps) (n : r ∉ fp) : Rows H' r ps := ⟨k.get h.lst n, fun c hc => (h.ok c hc).kp k⟩
/-- [piece[0] for piece in rows] -/
theorem lc_nms {r : Addr} {ps : List Pc} {j : Nat} {σ : L2.St} {Q : VK} {H : Hp} (R : Rows H r ps) (hz : ps.length ≤ 1000) (hj : j < σ.length)
    (hd : ∀ D H', Kp [] H H' → H D = none → H' D = some (.lst ((ps.map (·.nm)).map V.str)) → Q (.ref D) H') : kLc (Itl K r) (gName j) tYes (tOp (rIx K) (tVar j) (tC (.int 0))) [j] σ Q H := by
  refine k_lc (walk_list (K := K) (a := r) (xs := ps.map fun c => V.ref c.p)) [] (fun i ys H' => ys = ((ps.map (·.nm)).take i).map V.str) (fun _ _ _ _ _ => rfl) (fun i ys H' _ k _ => SqL.of (k.get R.lst List.not_mem_nil)) ?_ ?_
  · rintro i x ys D H1 H2 hi' hD k d l p ⟨rfl, hx⟩
    obtain ⟨c, hc, rfl⟩ := Option.map_eq_some_iff.mp (List.getElem?_map .. ▸ hx)
    obtain ⟨y1, y2, ht⟩ := ((R.ok c (List.mem_of_getElem? hc)).kp k).tup
    have hj' : j < (wipe σ [j]).length := by rw [wipe_length]; exact hj
    refine x_name (x_wp ?_ ?_)
    · show ((wipe σ [j]).set j _).set j none = wipe σ [j]
      rw [List.set_set]
      show (σ.set j none).set j none = σ.set j none
      rw [List.set_set]
    · refine x_yes (k_T (x_op (x_var (v := .ref c.p) (by rw [List.getElem?_set_self hj']) ?_)))
      walk_at "go"
      refine x_el hD hi' (by rw [List.length_map]; omega) l k d fun H6 _ _ => ?_
      rw [List.take_succ, List.getElem?_map, hc, List.map_append, ← p]
      rfl
  · intro D ys H' hD k d l p
    rw [p, List.length_map, ← List.length_map (f := fun c : Pc => c.nm), List.take_length] at d
    exact hd D H' k hD d
def spESpot : Sp := fun vs H Q _ => ∃ (r : Addr) (nm : Str) (ps : List Pc), vs = [.ref r, .str nm] ∧ Rows H r ps ∧ ps.length ≤ 1000 ∧
  (∀ (i : Nat) c H', ps[i]? = some c → c.nm = nm → Kp [] H H' → Q (.int (i : Int)) H') ∧ ((∀ c ∈ ps, c.nm ≠ nm) → ∀ H', Kp [] H H' → Q .non H')
abbrev s_e_spot : Stmt := top 15
theorem sc_e_spot : FnScope ["rows", "name", "found", "at"] ["rows", "name"] (defScope s_e_spot) := ⟨rfl, rfl, rfl, by decide +kernel, rfl, by decide +kernel, by decide +kernel⟩
theorem D_spot (Z : Blt mg) (D : DefAt K mg "_law_e_spot" s_e_spot ["rows", "name"]) : Def P w K mg base CX0 "_law_e_spot" 1 spESpot := by
  refine D.ok sc_e_spot (fun vs H Q E h => by obtain ⟨c, a, ps, rfl, _⟩ := h; rfl) fun f cdv A outer s H vs Q E hr h => ⟨_, (pss_cons (ps_setLc (i := 2) (own := [("at", 3)]) (g := gName 3) rfl sc_e_spot.nd rfl rfl (sw_true rfl rfl rfl (by decide +kernel)) (pi_range1 (by rfl) Z.range (pa_cons (pe_callB (lenK (K := K)) (by rfl) Z.len PySem.boot_len (pa_cons (pv 0) pa_nil)) pa_nil)) (blkOk_by (own := [("at", 3)]) (N := ["rows", "name", "found", "at"]) (sc := defScope s_e_spot) (by decide +kernel)) (fun _ _ _ _ _ => (pg_name (i := 3) sc_e_spot.nd rfl (Or.inl rfl))) (fun _ _ _ _ _ => (pts_one (pt_cmpR (eqK (K := K) hr.units) (pe_ix (ixK (K := K)) (pe_ix (ixK (K := K)) (pv 0) (pv 3) (fun _ _ => rfl)) pe_int (fun _ _ => rfl)) (pv 1) (nomark _)))) (fun _ _ _ _ _ => (pv 3))) (pss_one (ps_ret (pe_ifExp (pt_cmpR (neK (K := K) hr.units) (pv 2) (pe_lst pa_nil) (nomark _)) (pe_ix (ixK (K := K)) (pv 2) pe_int (fun _ _ => rfl)) pe_non)))), ?_⟩
  obtain ⟨r, nm, ps, rfl, R, hz, k1, k2⟩ := h
  have hR := R.lst
  have hlen : (ps.map fun c => V.ref c.p).length = ps.length := List.length_map ..
  refine x_body ?_
  walk_at "go"
  refine x_kR1 (by omega) (by omega) ?_
  refine k_lc (walk_range (lo := 0)) [] (fun i ys H' => ∃ js : List Nat, ys = js.map (fun j : Nat => V.int (j : Int)) ∧ (∀ j ∈ js, ∃ c, ps[j]? = some c ∧ c.nm = nm) ∧ (js = [] → ∀ (j : Nat) c, j < i → ps[j]? = some c → c.nm ≠ nm))
    (fun _ _ _ _ _ => ⟨[], rfl, (fun _ z => nomatch z), fun _ j _ z => absurd z (Nat.not_lt_zero j)⟩) (fun _ _ _ _ _ _ => trivial) ?_ ?_
  · rintro i x ys D H1 H2 hi hD k d l ⟨js, rfl, hin, hno⟩ ⟨rfl, rfl⟩
    have hil : i < ps.length := by rw [← hlen]; omega
    have hc : ps[i]? = some ps[i] := List.getElem?_eq_getElem hil
    have hR1 : H2 r = some (.lst (ps.map fun c => V.ref c.p)) := k.get hR List.not_mem_nil
    obtain ⟨y1, y2, ht⟩ := ((R.ok _ (List.getElem_mem hil)).kp k).tup
    walk_at "go"
    refine x_ixL (v := .ref ps[i].p) (SqL.of hR1) (by rw [Int.zero_add]; exact atI_nat (by rw [List.getElem?_map, hc]; rfl)) ?_
    walk_at "go"
    refine k_dec (fun en => ?_) (fun en => ?_)
    · walk_at "go"
      refine x_el hD hi (by omega) l k d fun H6 _ _ => ⟨js ++ [i], ?_, ?_, ?_⟩
      · rw [List.map_append]
        show _ ++ [V.int (0 + (i : Int))] = _
        rw [Int.zero_add]
        rfl
      · intro j hj
        rcases List.mem_append.mp hj with hj | hj
        · exact hin j hj
        · rw [List.mem_singleton.mp hj]
          exact ⟨_, hc, en⟩
      · intro z
        simp at z
    · refine x_sk hi l k d ⟨js, rfl, hin, fun z j c hj hjc => ?_⟩
      by_cases e : j = i
      · rw [e, hc] at hjc
        cases hjc
        exact en
      · exact hno z j c (by omega) hjc
  · rintro D ys H1 hD k d l ⟨js, rfl, hin, hno⟩
    walk_at "go"
    rename_i p H2 kp2 n2 e2
    have hd2 : H2 D = some (.lst (js.map fun j : Nat => V.int (j : Int))) := by walk_at "hp"
    refine x_neD (dp_list (f := fun j : Nat => V.int (j : Int)) (g := fun j : Nat => PyData.int (j : Int)) hd2 fun j _ => .int _) (.lst (SqL.of e2) .nil) ((shp_list (n := 1) fun j _ => Shp.int _).mono (by decide)) ((Shp.list (n := 1) (ds := []) fun _ z => nomatch z).mono (by decide)) ?_
    walk_at "go"
    cases js with
    | nil =>
      refine k_bT rfl ?_
      walk_at "go"
      refine k2 (fun c hc => ?_) H2 (k.trans kp2)
      obtain ⟨j, hj⟩ := List.getElem?_of_mem hc
      have hjl := (List.getElem?_eq_some_iff.mp hj).1
      exact hno rfl j c (by rw [hlen]; omega) hj
    | cons j js =>
      refine k_bF (by rw [PyData.eqv]; rfl) ?_
      walk_at "go"
      obtain ⟨c, hc, en⟩ := hin j List.mem_cons_self
      refine x_ixL (SqL.of hd2) (atI_nat (j := 0) rfl) ?_
      exact k1 j c H2 hc en (k.trans kp2)
end
end WM
set_option Elab.async false
set_option linter.all false
set_option maxRecDepth 100000
set_option maxHeartbeats 2000000
namespace WM
open PySem PySem.Spec PyProof.Rows L2
local macro_rules | `(tactic| walk_at "ne") => `(tactic| first | assumption | exact Ne.symm (by assumption) | exact ne_fresh (by assumption) (by walk_at "hp") | exact (ne_fresh (by assumption) (by walk_at "hp")).symm | exact ne_kind (by walk_at "hp") (by walk_at "hp") (by intro z; cases z))
local macro_rules | `(tactic| walk_at "ni") => `(tactic| first | exact List.not_mem_nil | assumption | exact ni1 (by walk_at "ne") | exact ni2 (by walk_at "ne") (by walk_at "ne") | exact ni3 (by walk_at "ne") (by walk_at "ne") (by walk_at "ne"))
local macro_rules | `(tactic| walk_at "hp") => `(tactic| first | assumption | exact upd_same | (apply upd_getN; (assumption); (walk_at "hp")) | (apply Kp.tup; (assumption); (walk_at "hp")) | (apply Kp.get; (assumption); (walk_at "hp"); (walk_at "ni")))
local macro_rules | `(tactic| walk_at "sq") => `(tactic| first | assumption | exact SqL.of (by walk_at "hp") | (apply Kp.sqL; (assumption); (walk_at "sq"); (walk_at "ni")))
local macro_rules | `(tactic| walk_at "kp") => `(tactic| first | exact Kp.refl _ _ | assumption | exact Kp.nil (by assumption) | (refine' Kp.step (by assumption) ?_ (by first | exact fun _ z => z | exact fun _ z => nomatch z | simp); walk_at "kp"))
local macro_rules | `(tactic| walk_at "tp") => `(tactic| first | assumption | exact Tp.non | exact Tp.bl _ | exact Tp.int _ | exact Tp.str _ | (apply Tp.tup; (walk_at "hp"); (walk_at "tps")) | (apply Tp.kp; (assumption); (walk_at "tp")))
local macro_rules | `(tactic| walk_at "tps") => `(tactic| first | exact TpAll.nil | (refine TpAll.cons ?_ ?_; (walk_at "tp"); (walk_at "tps")))
local macro_rules | `(tactic| walk_at "lk") => `(tactic| first | assumption | rfl)
local macro_rules | `(tactic| walk_at "go1") => `(tactic| first | with_reducible refine x_seq ?_ | with_reducible refine x_asg ?_ | with_reducible refine x_drop ?_ | with_reducible refine x_ret ?_ | with_reducible refine x_if ?_ | with_reducible refine x_next ?_ | with_reducible refine x_par ?_ | with_reducible refine x_par3 ?_ | with_reducible refine x_two ?_ | with_reducible refine x_three ?_ | with_reducible refine x_sfld ?_ | with_reducible refine x_retN ?_ | with_reducible refine x_brk ?_ | with_reducible refine x_name ?_ | with_reducible refine x_gsub ?_ | with_reducible refine x_gcons ?_ | with_reducible refine x_gnil ?_ | ((with_reducible apply x_gtup); (walk_at "hp"); exact rfl) | ((with_reducible apply x_var); exact rfl) | with_reducible refine x_c ?_ | with_reducible refine x_op ?_ | with_reducible refine x_un ?_ | with_reducible refine x_nil ?_ | with_reducible refine x_cons ?_ | with_reducible refine x_tup ?_ | with_reducible refine x_lst ?_ | with_reducible refine x_fldE ?_ | ((with_reducible apply x_fld); (walk_at "hp"); assumption; assumption; (walk_at "lk")) | with_reducible refine x_cal ?_ | with_reducible refine x_metE ?_ | with_reducible refine x_calS ?_ | with_reducible refine x_metS ?_ | ((with_reducible apply x_met); (walk_at "hp"); (walk_at "lk")) | with_reducible refine x_newI ?_ | with_reducible refine x_cb ?_ | with_reducible refine x_bm ?_ | with_reducible refine x_bm0 ?_ | ((with_reducible apply x_bmL); (walk_at "hp")) | with_reducible refine x_sl ?_ | with_reducible refine x_nop ?_ | with_reducible refine x_part ?_ | with_reducible refine x_kP ?_ | with_reducible refine x_ife ?_ | with_reducible refine x_andV ?_ | with_reducible refine x_orV ?_ | with_reducible refine x_notV ?_ | with_reducible refine x_test ?_ | with_reducible refine x_tB ?_ | with_reducible refine x_kB ?_ | with_reducible refine x_and ?_ | with_reducible refine x_or ?_ | with_reducible refine x_not ?_ | with_reducible refine k_T ?_ | with_reducible refine k_F ?_ | with_reducible refine k_not ?_ | walk_at "go2")
local macro_rules | `(tactic| walk_at "go2") => `(tactic| first | ((with_reducible apply x_setF); (walk_at "hp"); assumption; assumption; exact Nat.le_of_ble_eq_true rfl; exact rfl; intro _ _ _) | ((with_reducible apply x_append); (walk_at "hp"); (first | omega | (simp; omega)); intro _ _ _) | ((with_reducible apply x_setL); (walk_at "hp"); exact rfl; intro _ _ _) | with_reducible refine x_addI ?_ | with_reducible refine x_cmp ?_ | with_reducible refine x_subI ?_ | with_reducible refine x_eqI ?_ | with_reducible refine x_eqS ?_ | with_reducible refine x_neI ?_ | with_reducible refine x_neS ?_ | with_reducible refine x_isNo ?_ | with_reducible refine x_notNo ?_ | ((with_reducible apply x_modI); (first | omega | decide)) | ((with_reducible apply x_divI); (first | omega | decide); (first | omega | decide)) | ((with_reducible apply x_mulI); (first | exact .inl ⟨by omega, by omega⟩ | exact .inr ⟨by decide, by decide⟩ | exact .inr ⟨by omega, by omega⟩)) | ((with_reducible apply x_powI); exact ⟨by decide, by decide, by decide⟩) | ((with_reducible apply x_ixT); (walk_at "hp"); exact rfl) | ((with_reducible apply x_ixL); (walk_at "sq"); exact rfl) | ((with_reducible apply x_lenL); (walk_at "sq")) | ((with_reducible apply x_newT); exact Nat.le_of_ble_eq_true rfl; intro _ _ _ _ _) | ((with_reducible apply x_newL); exact Nat.le_of_ble_eq_true rfl; intro _ _ _ _ _) | with_reducible refine x_for ?_ | with_reducible refine x_iL ?_ | with_reducible refine x_iR1 ?_ | with_reducible refine x_iR2 ?_ | with_reducible refine x_iE ?_ | ((with_reducible apply x_kIL); (walk_at "sq")) | ((with_reducible apply x_kE); (walk_at "sq")) | with_reducible refine x_lc ?_ | with_reducible refine x_yes ?_ | ((with_reducible apply x_wp); exact rfl))
local macro_rules | `(tactic| walk_at "go") => `(tactic| (walk_at "go1"; repeat walk_at "go1"))
local macro_rules | `(tactic| walk_at "fr") => `(tactic| first | assumption | exact Kp.free (by assumption) _ (by walk_at "fr"))
local macro_rules | `(tactic| walk_at "lk") => `(tactic| first | exact lf_p _ _ | exact lf_d _ _ | exact lf_no _ _ (by decide +kernel) (by decide +kernel))
local macro_rules | `(tactic| walk_at "go1") => `(tactic| first | with_reducible refine x_rs ?_ | ((with_reducible apply x_niS); (walk_at "sq")) | ((with_reducible apply x_inS); (walk_at "sq")))
/-! ### deeds -/
inductive Dd where
  | put (c : Pc) | exch (c : Pc) | take (nm : Str)
def Dd.w : Dd → Str
  | .put _ => "put" | .exch _ => "exchange" | .take _ => "take"
def Dd.v : Dd → V
  | .put c => .ref c.p | .exch c => .ref c.p | .take nm => .str nm
def Dd.nm : Dd → Str
  | .put c => c.nm | .exch c => c.nm | .take nm => nm
def Dd.pcs : Dd → List Pc
  | .put c => [c] | .exch c => [c] | .take _ => []
structure DdAt (H : Hp) (a : Addr) (d : Dd) : Prop where
  tup : H a = some (.tup [.str d.w, d.v])
  pc : ∀ c ∈ d.pcs, PcAt H c
theorem DdAt.kp {fp : List Addr} {H H' : Hp} {a : Addr} {d : Dd} (k : Kp fp H H') (h : DdAt H a d) : DdAt H' a d := ⟨k.tup h.tup, fun c hc => (h.pc c hc).kp k⟩
def Fit (ps : List Pc) : Dd → Prop
  | .put c => ∀ o ∈ ps, o.nm ≠ c.nm
  | .exch c => ∃ o ∈ ps, o.nm = c.nm
  | .take nm => ∃ o ∈ ps, o.nm = nm
inductive Rf where
  | many | twin | piece
def Rf.f : Rf → Str
  | .many => "most" | .twin => "name" | .piece => "name"
def Rf.w : Rf → Str
  | .many => "many" | .twin => "twin" | .piece => "piece"
def Rf.v (d : Dd) : Rf → V
  | .many => .int 30 | .twin => .str d.nm | .piece => .str d.nm
def Rf.C (CM CT CN : Addr) : Rf → Addr
  | .many => CM | .twin => CT | .piece => CN
def Refs (ps : List Pc) : Dd → Rf → Prop
  | .put _, .many => 30 ≤ ps.length
  | .put c, .twin => ps.length < 30 ∧ c.nm ∈ ps.map (·.nm)
  | .exch c, .piece => ∀ o ∈ ps, o.nm ≠ c.nm
  | .take nm, .piece => ∀ o ∈ ps, o.nm ≠ nm
  | _, _ => False
def Step (ps : List Pc) : Dd → List Pc → Dn → Prop
  | .put c, qs, e => ps.length < 30 ∧ c.nm ∉ ps.map (·.nm) ∧ qs = ps ++ [c] ∧ e.k = .put ∧ e.at_ = ps.length ∧ e.pc = none
  | .exch c, qs, e => ∃ (i : Nat) (o : Pc), ps[i]? = some o ∧ o.nm = c.nm ∧ qs = ps.set i c ∧ e.k = .exch ∧ e.at_ = i ∧ e.pc = some o
  | .take nm, qs, e => ∃ (i : Nat) (o : Pc), ps[i]? = some o ∧ o.nm = nm ∧ qs = ps.eraseIdx i ∧ e.k = .take ∧ e.at_ = i ∧ e.pc = some o
def After (ps : List Pc) : Dd → List Pc → Prop
  | .put c, qs => qs = ps ++ [c]
  | .exch c, qs => ∃ (i : Nat) (o : Pc), ps[i]? = some o ∧ o.nm = c.nm ∧ qs = ps.set i c
  | .take nm, qs => ∃ (i : Nat) (o : Pc), ps[i]? = some o ∧ o.nm = nm ∧ qs = ps.eraseIdx i
section
variable {P : Program} {w : World} {K : PySem.W.Frag} {mg : Str → Option Value} {base : Heap} {C : Addr}
theorem Pen.neq {H : Hp} {pn b : Addr} {xs : List V} (h : Pen K H pn) (e : H b = some (.lst xs)) (hx : ∀ x ∈ xs, ∀ z, x ≠ V.int z) : b ≠ pn := by
  obtain ⟨sc, ns, a, c, e', _⟩ := h
  rintro rfl
  rw [e] at e'
  cases e'
  exact hx (.int a) (by simp) a rfl
theorem Pen.neP {α : Type} {H : Hp} {pn b : Addr} {l : List α} {f : α → Addr} (h : Pen K H pn) (e : H b = some (.lst (l.map fun c => V.ref (f c)))) : b ≠ pn := h.neq e fun x hx z => by
  obtain ⟨c, _, rfl⟩ := List.mem_map.mp hx
  exact fun q => nomatch q
theorem Pen.neS {H : Hp} {pn b : Addr} {l : List Str} (h : Pen K H pn) (e : H b = some (.lst (l.map V.str))) : b ≠ pn := h.neq e fun x hx z => by
  obtain ⟨c, _, rfl⟩ := List.mem_map.mp hx
  exact fun q => nomatch q
def spDeed (K : PySem.W.Frag) : Sp := fun vs H Q _ => ∃ (pn nl r : Addr) (ns : List Str) (ps : List Pc), vs = [.ref pn, .ref nl, .ref r] ∧ Pen K H pn ∧ H nl = some (.lst (ns.map V.str)) ∧ 0 < ns.length ∧ ns.length ≤ 1000 ∧ (∀ x ∈ ns, NmOk x) ∧
  Rows H r ps ∧ ps.length ≤ 1000 ∧ ∀ a d H', Kp [pn] H H' → Pen K H' pn → DdAt H' a d → Fit ps d → d.nm ∈ ns → Q (.ref a) H'
abbrev s_e_deed : Stmt := top 16
theorem sc_e_deed : FnScope ["pen", "names", "rows", "name"] ["pen", "names", "rows"] (defScope s_e_deed) := ⟨rfl, rfl, rfl, by decide +kernel, rfl, by decide +kernel, by decide +kernel⟩
theorem D_deed (Z : Blt mg) (D_next : Def P w K mg base CX0 "_law_next" 2 (spNext K)) (D_e_piece : Def P w K mg base CX0 "_law_e_piece" 3 (spPiece K)) (D_e_spot : Def P w K mg base CX0 "_law_e_spot" 1 spESpot) (D : DefAt K mg "_law_e_deed" s_e_deed ["pen", "names", "rows"]) :
    Def P w K mg base CX0 "_law_e_deed" 4 (spDeed K) := by
  refine D.ok sc_e_deed (fun vs H Q E h => by obtain ⟨c, a, b, ns, ps, rfl, _⟩ := h; rfl) fun f cdv A outer s H vs Q E hr h => ⟨_, (pss_cons (ps_set (i := 3) sc_e_deed.nd rfl (Or.inl rfl) (pe_ix (ixK (K := K)) (pv 1) (pe_def D_next (hr.mono (by decide)) pass0 (pa_cons (pv 0) (pa_cons (pe_callB (lenK (K := K)) (by rfl) Z.len PySem.boot_len (pa_cons (pv 1) pa_nil)) pa_nil))) (fun _ _ => rfl))) (pss_cons (ps_if (pt_cmpR op_isNo (pe_def D_e_spot (hr.mono (by decide)) pass0 (pa_cons (pv 2) (pa_cons (pv 3) pa_nil))) pe_non (nomark _)) (pss_one (ps_ret (pe_tup (pa_cons pe_str (pa_cons (pe_def D_e_piece (hr.mono (by decide)) pass0 (pa_cons (pv 0) (pa_cons (pv 3) pa_nil))) pa_nil))))) pss_nil) (pss_cons (ps_if (pt_cmpR (eqK (K := K) hr.units) (pe_def D_next (hr.mono (by decide)) pass0 (pa_cons (pv 0) (pa_cons pe_int pa_nil))) pe_int (nomark _)) (pss_one (ps_ret (pe_tup (pa_cons pe_str (pa_cons (pe_def D_e_piece (hr.mono (by decide)) pass0 (pa_cons (pv 0) (pa_cons (pv 3) pa_nil))) pa_nil))))) pss_nil) (pss_one (ps_ret (pe_tup (pa_cons pe_str (pa_cons (pv 3) pa_nil)))))))), ?_⟩
  obtain ⟨pn, nl, r, ns, ps, rfl, hp, hn, n0, n1, nok, R, hz, k⟩ := h
  refine x_body ?_
  have hlen : (ns.map V.str).length = ns.length := List.length_map ..
  have ne1 := hp.neS hn
  have ne2 := hp.neP R.lst
  walk_at "go"
  refine ⟨pn, _, rfl, hp, by omega, by omega, fun z H1 h0 h1 k1 hp1 => ?_⟩
  obtain ⟨j, rfl⟩ := Int.eq_ofNat_of_zero_le h0
  have hj : j < ns.length := by omega
  have hnj := nok _ (List.getElem_mem hj)
  refine x_ixL (v := .str ns[j]) (SqL.of (k1.get hn (ni1 ne1))) (atI_nat (by rw [List.getElem?_map, List.getElem?_eq_getElem hj]; rfl)) ?_
  walk_at "go"
  have R1 : Rows H1 r ps := R.kp k1 (ni1 ne2)
  refine ⟨r, ns[j], ps, rfl, R1, hz, fun i c H2 hc en k2 => ?_, fun hno H2 k2 => ?_⟩
  · have hp2 := hp1.kp0 k2
    walk_at "go"
    refine k_no (fun z => nomatch z) ?_
    walk_at "go"
    refine ⟨pn, 2, rfl, hp2, by decide, by decide, fun z H3 h0 h1 k3 hp3 => ?_⟩
    walk_at "go"
    have hm : ∃ o ∈ ps, o.nm = ns[j] := ⟨c, List.mem_of_getElem? hc, en⟩
    refine k_dec (fun _ => ?_) (fun _ => ?_)
    · walk_at "go"
      refine ⟨pn, ns[j], rfl, hp3, hnj, fun c H4 ec k4 hp4 hc4 => ?_⟩
      walk_at "go"
      rename_i T H5 k5 n5 e5
      exact k T (.exch c) H5 (by walk_at "kp") (hp4.kp0 k5) ⟨e5, fun x hx => by rw [List.mem_singleton.mp hx]; exact hc4.kp k5⟩ (by show ∃ o ∈ ps, o.nm = c.nm; rw [ec]; exact hm) (by show c.nm ∈ ns; rw [ec]; exact List.getElem_mem hj)
    · walk_at "go"
      rename_i T H5 k5 n5 e5
      exact k T (.take ns[j]) H5 (by walk_at "kp") (hp3.kp0 k5) ⟨e5, fun x hx => nomatch hx⟩ hm (List.getElem_mem hj)
  · have hp2 := hp1.kp0 k2
    walk_at "go"
    refine k_is rfl ?_
    walk_at "go"
    refine ⟨pn, ns[j], rfl, hp2, hnj, fun c H4 ec k4 hp4 hc4 => ?_⟩
    walk_at "go"
    rename_i T H5 k5 n5 e5
    exact k T (.put c) H5 (by walk_at "kp") (hp4.kp0 k5) ⟨e5, fun x hx => by rw [List.mem_singleton.mp hx]; exact hc4.kp k5⟩ (by show ∀ o ∈ ps, o.nm ≠ c.nm; rw [ec]; exact hno) (by show c.nm ∈ ns; rw [ec]; exact List.getElem_mem hj)
theorem cutV_to {xs : List V} {i : Nat} (h : i ≤ xs.length) : cutV xs none (some (i : Int)) = xs.take i := by
  have e : HT.sIx xs.length xs.length (some (i : Int)) = i := by rw [HT.sIx_nat]; exact Nat.min_eq_left h
  have e0 : HT.sIx xs.length 0 none = 0 := by simp only [HT.sIx]
  show (xs.drop (HT.sIx xs.length 0 none)).take (HT.sIx xs.length xs.length (some (i : Int)) - HT.sIx xs.length 0 none) = xs.take i
  rw [e, e0]
  rfl
theorem cutV_from {xs : List V} {i : Nat} (h : i ≤ xs.length) : cutV xs (some (i : Int)) none = xs.drop i := by
  have e : HT.sIx xs.length 0 (some (i : Int)) = i := by rw [HT.sIx_nat]; exact Nat.min_eq_left h
  have e0 : HT.sIx xs.length xs.length none = xs.length := by simp only [HT.sIx]
  show (xs.drop (HT.sIx xs.length 0 (some (i : Int)))).take (HT.sIx xs.length xs.length none - HT.sIx xs.length 0 (some (i : Int))) = xs.drop i
  rw [e, e0]
  exact List.take_of_length_le (by rw [List.length_drop]; exact Nat.le_refl _)
theorem set_cut {α : Type} : ∀ (l : List α) (i : Nat) (a : α), i < l.length → l.set i a = l.take i ++ [a] ++ l.drop (i + 1)
  | [], i, a, h => absurd h (Nat.not_lt_zero _)
  | x :: r, 0, a, _ => rfl
  | x :: r, i + 1, a, h => by
    have ih := set_cut r i a (Nat.lt_of_succ_lt_succ h)
    simpa using ih
theorem erase_cut {α : Type} : ∀ (l : List α) (i : Nat), l.eraseIdx i = l.take i ++ l.drop (i + 1)
  | [], i => by simp
  | x :: r, 0 => rfl
  | x :: r, i + 1 => by
    have ih := erase_cut r i
    simpa using ih
def spAfter : Sp := fun vs H Q _ => ∃ (r a : Addr) (ps : List Pc) (d : Dd), vs = [.ref r, .ref a] ∧ Rows H r ps ∧ DdAt H a d ∧ (∀ c, d ≠ .put c → Fit ps d) ∧ ps.length ≤ 1000 ∧ ∀ p qs H', Kp [] H H' → H p = none → Rows H' p qs → After ps d qs → Q (.ref p) H'
theorem Rows.of {H H' : Hp} {p : Addr} {ps qs : List Pc} (e : H' p = some (.lst (qs.map fun c => V.ref c.p))) (h : ∀ c ∈ ps, PcAt H' c) (s : ∀ c ∈ qs, c ∈ ps) : Rows H' p qs := ⟨e, fun c hc => h c (s c hc)⟩
abbrev s_e_after : Stmt := top 17
theorem sc_e_after : FnScope ["rows", "deed", "at"] ["rows", "deed"] (defScope s_e_after) := ⟨rfl, rfl, rfl, by decide +kernel, rfl, by decide +kernel, by decide +kernel⟩
theorem D_after (D_e_spot : Def P w K mg base CX0 "_law_e_spot" 1 spESpot) (D : DefAt K mg "_law_e_after" s_e_after ["rows", "deed"]) : Def P w K mg base CX0 "_law_e_after" 2 spAfter := by
  refine D.ok sc_e_after (fun vs H Q E h => by obtain ⟨c, a, ps, d, rfl, _⟩ := h; rfl) fun f cdv A outer s H vs Q E hr h => ⟨_, (pss_cons (ps_if (pt_cmpR (eqK (K := K) hr.units) (pe_ix (ixK (K := K)) (pv 1) pe_int (fun _ _ => rfl)) pe_str (nomark _)) (pss_one (ps_ret (pe_op op_addA (pv 0) (pe_lst (pa_cons (pe_ix (ixK (K := K)) (pv 1) pe_int (fun _ _ => rfl)) pa_nil))))) pss_nil) (pss_cons (ps_if (pt_cmpR (eqK (K := K) hr.units) (pe_ix (ixK (K := K)) (pv 1) pe_int (fun _ _ => rfl)) pe_str (nomark _)) (pss_cons (ps_set (i := 2) sc_e_after.nd rfl (Or.inl rfl) (pe_def D_e_spot (hr.mono (by decide)) pass0 (pa_cons (pv 0) (pa_cons (pe_ix (ixK (K := K)) (pe_ix (ixK (K := K)) (pv 1) pe_int (fun _ _ => rfl)) pe_int (fun _ _ => rfl)) pa_nil)))) (pss_one (ps_ret (pe_op op_addA (pe_op op_addA (pe_slice (slK (K := K)) (pv 0) po_none (po_some (pv 2))) (pe_lst (pa_cons (pe_ix (ixK (K := K)) (pv 1) pe_int (fun _ _ => rfl)) pa_nil))) (pe_slice (slK (K := K)) (pv 0) (po_some (pe_op op_addA (pv 2) pe_int)) po_none))))) pss_nil) (pss_cons (ps_set (i := 2) sc_e_after.nd rfl (Or.inl rfl) (pe_def D_e_spot (hr.mono (by decide)) pass0 (pa_cons (pv 0) (pa_cons (pe_ix (ixK (K := K)) (pv 1) pe_int (fun _ _ => rfl)) pa_nil)))) (pss_one (ps_ret (pe_op op_addA (pe_slice (slK (K := K)) (pv 0) po_none (po_some (pv 2))) (pe_slice (slK (K := K)) (pv 0) (po_some (pe_op op_addA (pv 2) pe_int)) po_none))))))), ?_⟩
  obtain ⟨r, a, ps, d, rfl, R, hd, fit, hz, k⟩ := h
  have hR := R.lst
  have hlen : (ps.map fun c => V.ref c.p).length = ps.length := List.length_map ..
  refine x_body ?_
  have ht := hd.tup
  walk_at "go"
  cases d with
  | put c =>
    refine k_is rfl ?_
    walk_at "go"
    rename_i T H1 k1 n1 e1
    refine x_addL (k1.get hR List.not_mem_nil) e1 (by simp only [List.length_singleton]; omega) fun p H2 k2 n2 e2 => ?_
    have kk : Kp [] H H2 := k1.trans k2
    refine k p (ps ++ [c]) H2 kk (k1.free _ n2) ⟨by rw [e2, List.map_append]; rfl, fun x hx => ?_⟩ rfl
    rcases List.mem_append.mp hx with hx | hx
    · exact (R.ok x hx).kp kk
    · rw [List.mem_singleton.mp hx]
      exact (hd.pc c List.mem_cons_self).kp kk
  | exch c =>
    refine k_no (show ¬ ("exchange" : Str) = "put" by decide +kernel) ?_
    walk_at "go"
    refine k_is rfl ?_
    have hc := hd.pc c List.mem_cons_self
    obtain ⟨y1, y2, hct⟩ := hc.tup
    have ht' : H a = some (.tup [.str "exchange", .ref c.p]) := ht
    obtain ⟨o0, ho0, eo0⟩ := fit ⟨0, "", .none⟩ (fun z => nomatch z)
    walk_at "go"
    refine ⟨r, c.nm, ps, rfl, R, hz, fun i o H1 ho en k1 => ?_, fun hno => absurd eo0 (hno o0 ho0)⟩
    have hil : i < ps.length := (List.getElem?_eq_some_iff.mp ho).1
    walk_at "go"
    refine x_slL (k1.get hR List.not_mem_nil) fun p2 H2 k2 n2 e2 => ?_
    walk_at "go"
    rename_i p3 H3 k3 n3 e3
    refine x_addL (k3.get e2 List.not_mem_nil) e3 (by rw [cutV_to (by omega), List.length_take]; simp only [List.length_singleton]; omega) fun p4 H4 k4 n4 e4 => ?_
    walk_at "go"
    refine x_slL (xs := ps.map fun c => V.ref c.p) (by walk_at "hp") fun p5 H5 k5 n5 e5 => ?_
    have ei : ((i : Int) + 1) = ((i + 1 : Nat) : Int) := by omega
    rw [ei, cutV_from (by omega)] at e5
    rw [cutV_to (by omega)] at e4
    refine x_addL (k5.get e4 List.not_mem_nil) e5 (by rw [List.length_append, List.length_take, List.length_drop]; simp only [List.length_singleton]; omega) fun p6 H6 k6 n6 e6 => ?_
    have kk : Kp [] H H6 := (((k1.trans k2).trans k3).trans k4).trans (k5.trans k6)
    have nn : H p6 = none := ((((k1.trans k2).trans k3).trans k4).trans k5).free _ n6
    refine k p6 (ps.set i c) H6 kk nn ⟨?_, fun x hx => ?_⟩ ⟨i, o, ho, en, rfl⟩
    · rw [e6, set_cut ps i c hil, List.map_append, List.map_append, List.map_take, List.map_drop]
      rfl
    · rcases List.mem_or_eq_of_mem_set hx with hx | hx
      · exact (R.ok x hx).kp kk
      · rw [hx]
        exact hc.kp kk
  | take nm =>
    refine k_no (show ¬ ("take" : Str) = "put" by decide +kernel) ?_
    walk_at "go"
    refine k_no (show ¬ ("take" : Str) = "exchange" by decide +kernel) ?_
    obtain ⟨o0, ho0, eo0⟩ := fit ⟨0, "", .none⟩ (fun z => nomatch z)
    walk_at "go"
    refine ⟨r, nm, ps, rfl, R, hz, fun i o H1 ho en k1 => ?_, fun hno => absurd eo0 (hno o0 ho0)⟩
    have hil : i < ps.length := (List.getElem?_eq_some_iff.mp ho).1
    walk_at "go"
    refine x_slL (k1.get hR List.not_mem_nil) fun p2 H2 k2 n2 e2 => ?_
    walk_at "go"
    refine x_slL (xs := ps.map fun c => V.ref c.p) (by walk_at "hp") fun p5 H5 k5 n5 e5 => ?_
    have ei : ((i : Int) + 1) = ((i + 1 : Nat) : Int) := by omega
    rw [ei, cutV_from (by omega)] at e5
    rw [cutV_to (by omega)] at e2
    refine x_addL (k5.get e2 List.not_mem_nil) e5 (by rw [List.length_take, List.length_drop]; omega) fun p6 H6 k6 n6 e6 => ?_
    have kk : Kp [] H H6 := (k1.trans k2).trans (k5.trans k6)
    have nn : H p6 = none := ((k1.trans k2).trans k5).free _ n6
    refine k p6 (ps.eraseIdx i) H6 kk nn ⟨?_, fun x hx => ?_⟩ ⟨i, o, ho, en, rfl⟩
    · rw [e6, erase_cut ps i, List.map_append, List.map_take, List.map_drop]
    · exact (R.ok x (List.mem_of_mem_eraseIdx hx)).kp kk
def spDo (C CM CT CN : Addr) : Sp := fun vs H Q E => ∃ (l pl dl a : Addr) (d : Dd) (ps : List Pc) (ds : List Dn), vs = [.ref l, .ref a] ∧ Lk C H l pl dl ps ds ∧ DdAt H a d ∧ ps.length ≤ 1000 ∧ ds.length ≤ 50000 ∧
  (∀ rf, Refs ps d rf → Refused E H (rf.C CM CT CN) rf.f (rf.v d)) ∧ (∀ qs e H', Step ps d qs e → Kp [pl, dl] H H' → Lk C H' l pl dl qs (ds ++ [e]) → Q .non H')
abbrev s_e_do : Stmt := top 18
theorem sc_e_do : FnScope ["linker", "deed"] ["linker", "deed"] (defScope s_e_do) := ⟨rfl, rfl, rfl, by decide +kernel, rfl, by decide +kernel, by decide +kernel⟩
theorem D_do {CM CT CN : Addr} (cl : Cls K C) (M_put : Met P w K mg base (L2.CX P w) C "put" 3 (spPut C CM CT)) (M_exchange : Met P w K mg base (L2.CX P w) C "exchange" 4 (spExch C CN)) (M_take_out : Met P w K mg base (L2.CX P w) C "take_out" 4 (spTake C CN))
    (D : DefAt K mg "_law_e_do" s_e_do ["linker", "deed"]) : Def P w K mg base (L2.CX P w) "_law_e_do" 5 (spDo C CM CT CN) := by
  refine D.okX sc_e_do (fun vs H Q E h => by obtain ⟨l, pl, dl, c, d, ps, ds, rfl, _⟩ := h; rfl) fun f cdv A outer s H vs Q E hr h => ⟨_, (pss_cons (ps_if (pt_cmpR (eqK (K := K) hr.units) (pe_ix (ixK (K := K)) (pv 1) pe_int (fun _ _ => rfl)) pe_str (nomark _)) (pss_one (ps_ret (pe_met M_put cl (hr.mono (by decide)) (passes_call (takes_of rfl rfl rfl rfl) fun _ _ _ _ h => h) (pv 0) (pa_cons (pe_ix (ixK (K := K)) (pv 1) pe_int (fun _ _ => rfl)) pa_nil)))) pss_nil) (pss_cons (ps_if (pt_cmpR (eqK (K := K) hr.units) (pe_ix (ixK (K := K)) (pv 1) pe_int (fun _ _ => rfl)) pe_str (nomark _)) (pss_one (ps_ret (pe_met M_exchange cl (hr.mono (by decide)) (passes_call (takes_of rfl rfl rfl rfl) fun _ _ _ _ h => h) (pv 0) (pa_cons (pe_ix (ixK (K := K)) (pv 1) pe_int (fun _ _ => rfl)) pa_nil)))) pss_nil) (pss_one (ps_ret (pe_met M_take_out cl (hr.mono (by decide)) (passes_call (takes_of rfl rfl rfl rfl) fun _ _ _ _ h => h) (pv 0) (pa_cons (pe_ix (ixK (K := K)) (pv 1) pe_int (fun _ _ => rfl)) pa_nil)))))), ?_⟩
  obtain ⟨l, pl, dl, a, d, ps, ds, rfl, L, hd, hz, hz2, kE, kk⟩ := h
  refine x_body ?_
  obtain ⟨⟨dx, hi⟩, _⟩ := id L
  have ht := hd.tup
  walk_at "go"
  cases d with
  | put c =>
    refine k_is rfl ?_
    walk_at "go"
    refine ⟨l, pl, dl, c, ps, ds, rfl, L, hd.pc c List.mem_cons_self, hz, hz2, fun h => kE .many h, fun h1 h2 => kE .twin ⟨h1, h2⟩, fun h1 h2 b H' k' L' => kk _ _ H' ⟨h1, h2, rfl, rfl, rfl, rfl⟩ k' L'⟩
  | exch c =>
    refine k_no (show ¬ ("exchange" : Str) = "put" by decide +kernel) ?_
    walk_at "go"
    refine k_is rfl ?_
    walk_at "go"
    refine ⟨l, pl, dl, c, ps, ds, rfl, L, hd.pc c List.mem_cons_self, hz, hz2, fun i o b H' ho en k' L' => kk _ _ H' ⟨i, o, ho, en, rfl, rfl, rfl, rfl⟩ k' L', fun h => kE .piece h⟩
  | take nm =>
    refine k_no (show ¬ ("take" : Str) = "put" by decide +kernel) ?_
    walk_at "go"
    refine k_no (show ¬ ("take" : Str) = "exchange" by decide +kernel) ?_
    walk_at "go"
    refine ⟨l, pl, dl, nm, ps, ds, rfl, L, hz, hz2, fun i o b H' ho en k' L' => kk _ _ H' ⟨i, o, ho, en, rfl, rfl, rfl, rfl⟩ k' L', fun h => kE .piece h⟩
end
end WM
set_option Elab.async false
set_option linter.all false
set_option maxRecDepth 100000
set_option maxHeartbeats 2000000
namespace WM
open PySem PySem.Spec PyProof.Rows L2
local macro_rules | `(tactic| walk_at "ne") => `(tactic| first | assumption | exact Ne.symm (by assumption) | exact ne_fresh (by assumption) (by walk_at "hp") | exact (ne_fresh (by assumption) (by walk_at "hp")).symm | exact ne_kind (by walk_at "hp") (by walk_at "hp") (by intro z; cases z))
local macro_rules | `(tactic| walk_at "ni") => `(tactic| first | exact List.not_mem_nil | assumption | exact ni1 (by walk_at "ne") | exact ni2 (by walk_at "ne") (by walk_at "ne") | exact ni3 (by walk_at "ne") (by walk_at "ne") (by walk_at "ne"))
local macro_rules | `(tactic| walk_at "hp") => `(tactic| first | assumption | exact upd_same | (apply upd_getN; (assumption); (walk_at "hp")) | (apply Kp.tup; (assumption); (walk_at "hp")) | (apply Kp.get; (assumption); (walk_at "hp"); (walk_at "ni")))
local macro_rules | `(tactic| walk_at "sq") => `(tactic| first | assumption | exact SqL.of (by walk_at "hp") | (apply Kp.sqL; (assumption); (walk_at "sq"); (walk_at "ni")))
local macro_rules | `(tactic| walk_at "kp") => `(tactic| first | exact Kp.refl _ _ | assumption | exact Kp.nil (by assumption) | (refine' Kp.step (by assumption) ?_ (by first | exact fun _ z => z | exact fun _ z => nomatch z | simp); walk_at "kp"))
local macro_rules | `(tactic| walk_at "tp") => `(tactic| first | assumption | exact Tp.non | exact Tp.bl _ | exact Tp.int _ | exact Tp.str _ | (apply Tp.tup; (walk_at "hp"); (walk_at "tps")) | (apply Tp.kp; (assumption); (walk_at "tp")))
local macro_rules | `(tactic| walk_at "tps") => `(tactic| first | exact TpAll.nil | (refine TpAll.cons ?_ ?_; (walk_at "tp"); (walk_at "tps")))
local macro_rules | `(tactic| walk_at "lk") => `(tactic| first | assumption | rfl)
local macro_rules | `(tactic| walk_at "go1") => `(tactic| first | with_reducible refine x_seq ?_ | with_reducible refine x_asg ?_ | with_reducible refine x_drop ?_ | with_reducible refine x_ret ?_ | with_reducible refine x_if ?_ | with_reducible refine x_next ?_ | with_reducible refine x_par ?_ | with_reducible refine x_par3 ?_ | with_reducible refine x_two ?_ | with_reducible refine x_three ?_ | with_reducible refine x_sfld ?_ | with_reducible refine x_retN ?_ | with_reducible refine x_brk ?_ | with_reducible refine x_name ?_ | with_reducible refine x_gsub ?_ | with_reducible refine x_gcons ?_ | with_reducible refine x_gnil ?_ | ((with_reducible apply x_gtup); (walk_at "hp"); exact rfl) | ((with_reducible apply x_var); exact rfl) | with_reducible refine x_c ?_ | with_reducible refine x_op ?_ | with_reducible refine x_un ?_ | with_reducible refine x_nil ?_ | with_reducible refine x_cons ?_ | with_reducible refine x_tup ?_ | with_reducible refine x_lst ?_ | with_reducible refine x_fldE ?_ | ((with_reducible apply x_fld); (walk_at "hp"); assumption; assumption; (walk_at "lk")) | with_reducible refine x_cal ?_ | with_reducible refine x_metE ?_ | with_reducible refine x_calS ?_ | with_reducible refine x_metS ?_ | ((with_reducible apply x_met); (walk_at "hp"); (walk_at "lk")) | with_reducible refine x_newI ?_ | with_reducible refine x_cb ?_ | with_reducible refine x_bm ?_ | with_reducible refine x_bm0 ?_ | ((with_reducible apply x_bmL); (walk_at "hp")) | with_reducible refine x_sl ?_ | with_reducible refine x_nop ?_ | with_reducible refine x_part ?_ | with_reducible refine x_kP ?_ | with_reducible refine x_ife ?_ | with_reducible refine x_andV ?_ | with_reducible refine x_orV ?_ | with_reducible refine x_notV ?_ | with_reducible refine x_test ?_ | with_reducible refine x_tB ?_ | with_reducible refine x_kB ?_ | with_reducible refine x_and ?_ | with_reducible refine x_or ?_ | with_reducible refine x_not ?_ | with_reducible refine k_T ?_ | with_reducible refine k_F ?_ | with_reducible refine k_not ?_ | walk_at "go2")
local macro_rules | `(tactic| walk_at "go2") => `(tactic| first | ((with_reducible apply x_setF); (walk_at "hp"); assumption; assumption; exact Nat.le_of_ble_eq_true rfl; exact rfl; intro _ _ _) | ((with_reducible apply x_append); (walk_at "hp"); (first | omega | (simp; omega)); intro _ _ _) | ((with_reducible apply x_setL); (walk_at "hp"); exact rfl; intro _ _ _) | with_reducible refine x_addI ?_ | with_reducible refine x_cmp ?_ | with_reducible refine x_subI ?_ | with_reducible refine x_eqI ?_ | with_reducible refine x_eqS ?_ | with_reducible refine x_neI ?_ | with_reducible refine x_neS ?_ | with_reducible refine x_isNo ?_ | with_reducible refine x_notNo ?_ | ((with_reducible apply x_modI); (first | omega | decide)) | ((with_reducible apply x_divI); (first | omega | decide); (first | omega | decide)) | ((with_reducible apply x_mulI); (first | exact .inl ⟨by omega, by omega⟩ | exact .inr ⟨by decide, by decide⟩ | exact .inr ⟨by omega, by omega⟩)) | ((with_reducible apply x_powI); exact ⟨by decide, by decide, by decide⟩) | ((with_reducible apply x_ixT); (walk_at "hp"); exact rfl) | ((with_reducible apply x_ixL); (walk_at "sq"); exact rfl) | ((with_reducible apply x_lenL); (walk_at "sq")) | ((with_reducible apply x_newT); exact Nat.le_of_ble_eq_true rfl; intro _ _ _ _ _) | ((with_reducible apply x_newL); exact Nat.le_of_ble_eq_true rfl; intro _ _ _ _ _) | with_reducible refine x_for ?_ | with_reducible refine x_iL ?_ | with_reducible refine x_iR1 ?_ | with_reducible refine x_iR2 ?_ | with_reducible refine x_iE ?_ | ((with_reducible apply x_kIL); (walk_at "sq")) | ((with_reducible apply x_kE); (walk_at "sq")) | with_reducible refine x_lc ?_ | with_reducible refine x_yes ?_ | ((with_reducible apply x_wp); exact rfl))
local macro_rules | `(tactic| walk_at "go") => `(tactic| (walk_at "go1"; repeat walk_at "go1"))
local macro_rules | `(tactic| walk_at "fr") => `(tactic| first | assumption | exact Kp.free (by assumption) _ (by walk_at "fr"))
local macro_rules | `(tactic| walk_at "lk") => `(tactic| first | exact lf_p _ _ | exact lf_d _ _ | exact lf_no _ _ (by decide +kernel) (by decide +kernel))
local macro_rules | `(tactic| walk_at "go1") => `(tactic| first | with_reducible refine x_rs ?_ | ((with_reducible apply x_niS); (walk_at "sq")) | ((with_reducible apply x_inS); (walk_at "sq")))
section
variable {P : Program} {w : World} {K : PySem.W.Frag} {mg : Str → Option Value} {base : Heap} {C : Addr}
theorem N_spot {CN : Addr} (Z : Blt mg) (cl : Cls K C) (nP : NoAttr K C "pieces") (X_NoPiece : ExcD P w K mg base "NoPiece" CN "name") (M : MetAt K C "spot" "Linker.spot" s_Linker_spot ["self", "name"]) : Met P w K mg base (L2N.CX P w) C "spot" 3 (spSpot C CN) := by
  refine M.okN sc_Linker_spot (fun vs H Q E h => by obtain ⟨l, nm, pl, dl, ps, ds, rfl, _⟩ := h; rfl) fun f cdv A outer s H vs Q E hr h => ⟨_, (pss_cons (ps_for (passes_of rfl) rfl (enumIt (K := K) (by rfl) Z.enumerate (pa_cons (fldK (K := K) (pv 0) rfl) pa_nil)) (gtupK (K := K) (n := 2) rfl (pgs_cons (pg_name (i := 2) sc_Linker_spot.nd rfl (Or.inl rfl)) (pgs_cons (pg_name (i := 3) sc_Linker_spot.nd rfl (Or.inl rfl)) pgs_nil))) (pss_one (ps_if (pt_cmpR (eqK (K := K) hr.units) (pe_ix (ixK (K := K)) (pv 3) pe_int (fun _ _ => rfl)) (pv 1) (nomark _)) (pss_one (ps_ret (pv 2))) pss_nil))) (pss_one (ps_rsN rfl (L2N.takes_of rfl rfl rfl rfl) X_NoPiece (hr.mono (by decide)) (pa_cons (pv 1) pa_nil)))), ?_⟩
  obtain ⟨l, nm, pl, dl, ps, ds, rfl, L, hz, kk, kE⟩ := h
  refine x_body ?_
  obtain ⟨⟨dx, hi⟩, hp, hd, pok, dok, ne⟩ := id L
  walk_at "go"
  refine k_forE (fun i σ H' => ∃ v2 v3, σ = [some (.ref l), some (.str nm), v2, v3] ∧ Kp [] H H' ∧ ∀ (j : Nat) c, j < i → ps[j]? = some c → c.nm ≠ nm) ⟨none, none, rfl, Kp.refl _ _, fun j c z _ => absurd z (Nat.not_lt_zero j)⟩ (fun i σ H' _ ⟨_, _, _, k, _⟩ => SqL.of (k.get hp List.not_mem_nil)) ?_ ?_
  · rintro i x σ H1 T H2 hx ⟨v2, v3, rfl, k, no⟩ k2 nT eT
    obtain ⟨c, hc, rfl⟩ := Option.map_eq_some_iff.mp (List.getElem?_map .. ▸ hx)
    obtain ⟨y1, y2, ht⟩ := ((pok c (List.mem_of_getElem? hc)).kp (k.trans k2)).tup
    walk_at "go"
    refine k_dec (fun e => ?_) (fun e => ?_)
    · walk_at "go"
      exact kk i c _ hc e (k.trans k2)
    · walk_at "go"
      refine ⟨_, _, rfl, k.trans k2, fun j c' hj hc' => ?_⟩
      by_cases z : j = i
      · rw [z, hc] at hc'
        cases hc'
        exact e
      · exact no j c' (by omega) hc'
  · rintro σ H1 ⟨v2, v3, rfl, k, no⟩
    walk_at "go"
    refine x_refuse k (kE fun c hc => ?_)
    obtain ⟨j, hj⟩ := List.getElem?_of_mem hc
    have hl : j < ps.length := (List.getElem?_eq_some_iff.mp hj).1
    exact no j c (by rw [List.length_map]; exact hl) hj
theorem N_put {CM CT : Addr} {tk : Tok} (Z : Blt mg) (cl : Cls K C) (nP : NoAttr K C "pieces") (nD : NoAttr K C "done") (gMP : mg "MOST_PIECES" = some (.int 30 tk)) (X_TooMany : ExcD P w K mg base "TooMany" CM "most") (X_Twin : ExcD P w K mg base "Twin" CT "name")
    (M_names : Met P w K mg base CX0 C "names" 1 (spNames C)) (M : MetAt K C "put" "Linker.put" s_Linker_put ["self", "piece"]) : Met P w K mg base (L2N.CX P w) C "put" 3 (spPut C CM CT) := by
  refine M.okN sc_Linker_put (fun vs H Q E h => by obtain ⟨l, pl, dl, c, ps, ds, rfl, _⟩ := h; rfl) fun f cdv A outer s H vs Q E hr h => ⟨_, (pss_cons (ps_if (pt_cmpR op_geI (pe_callB (lenK (K := K)) (by rfl) Z.len PySem.boot_len (pa_cons (fldK (K := K) (pv 0) rfl) pa_nil)) (pe_glob (v := .int 30) rfl gMP ⟨_, rfl⟩) (nomark _)) (pss_one (ps_rsN rfl (L2N.takes_of rfl rfl rfl rfl) X_TooMany (hr.mono (by decide)) (pa_cons (pe_glob (v := .int 30) rfl gMP ⟨_, rfl⟩) pa_nil))) pss_nil) (pss_cons (ps_if (pt_cmpR (inK (K := K)) (pe_ix (ixK (K := K)) (pv 1) pe_int (fun _ _ => rfl)) (pe_met0 M_names cl (hr.mono (by decide)) pass0 (pv 0)) (by rfl)) (pss_one (ps_rsN rfl (L2N.takes_of rfl rfl rfl rfl) X_Twin (hr.mono (by decide)) (pa_cons (pe_ix (ixK (K := K)) (pv 1) pe_int (fun _ _ => rfl)) pa_nil))) pss_nil) (pss_cons (ps_expr (bmK (K := K) PySem.F.plainAttrs_list PySem.F.slot_list_append PySem.F.type_list_append mt_append (fldK (K := K) (pv 0) rfl) (pa_cons (pv 1) pa_nil))) (pss_one (ps_expr (bmK (K := K) PySem.F.plainAttrs_list PySem.F.slot_list_append PySem.F.type_list_append mt_append (fldK (K := K) (pv 0) rfl) (pa_cons (pe_tup (pa_cons pe_str (pa_cons (pe_op op_subI (pe_callB (lenK (K := K)) (by rfl) Z.len PySem.boot_len (pa_cons (fldK (K := K) (pv 0) rfl) pa_nil)) pe_int) (pa_cons pe_non pa_nil)))) pa_nil))))))), ?_⟩
  obtain ⟨l, pl, dl, c, ps, ds, rfl, L, hc, hz, hz2, k1, k2, k3⟩ := h
  refine x_body ?_
  obtain ⟨⟨dx, hi⟩, hp, hd, pok, dok, ne⟩ := id L
  obtain ⟨y1, y2, ht⟩ := hc.tup
  have hlen : (ps.map fun c => V.ref c.p).length = ps.length := List.length_map ..
  walk_at "go"
  refine k_dec (fun h => ?_) (fun h => ?_)
  · walk_at "go"
    exact x_refuse (Kp.refl _ _) (k1 (by omega))
  · walk_at "go"
    refine ⟨l, pl, dl, ps, ds, rfl, L, hz, fun p H1 kp hn e => ?_⟩
    have ht1 := kp.tup ht
    walk_at "go"
    refine k_dec (fun h2 => ?_) (fun h2 => ?_)
    · walk_at "go"
      exact x_refuse kp (k2 (by omega) h2)
    · walk_at "go"
      rename_i H2 kp2 e2 T H3 kp3 hn3 e3 H4 kp4 e4
      have e4' : H4 pl = some (.lst ((ps ++ [c]).map fun c => V.ref c.p)) := by
        rw [List.map_append]
        walk_at "hp"
      have kk : Kp [pl, dl] H H4 := (((kp.nil (fp := [pl, dl])).trans (kp2.mono (by simp))).trans (kp3.nil)).trans (kp4.mono (by simp))
      have e3' := kp4.tup e3
      have en : ((((ps.map fun c => V.ref c.p) ++ [V.ref c.p]).length : Nat) : Int) - 1 = (ps.length : Int) := by
        rw [List.length_append, hlen]
        simp
      rw [en] at e3'
      refine k3 (by omega) h2 T H4 kk (Lk.put (e := ⟨T, .put, ps.length, none⟩) L kk e4' e4 ⟨e3', fun c z => nomatch z⟩ fun x hx => ?_)
      · rcases List.mem_append.mp hx with hx | hx
        · exact (pok x hx).kp kk
        · rw [List.mem_singleton.mp hx]
          exact hc.kp kk
theorem N_exchange {CN : Addr} (Z : Blt mg) (cl : Cls K C) (nP : NoAttr K C "pieces") (nD : NoAttr K C "done") (N_spot : Met P w K mg base (L2N.CX P w) C "spot" 3 (spSpot C CN)) (M : MetAt K C "exchange" "Linker.exchange" s_Linker_exchange ["self", "piece"]) :
    Met P w K mg base (L2N.CX P w) C "exchange" 4 (spExch C CN) := by
  refine M.okN sc_Linker_exchange (fun vs H Q E h => by obtain ⟨l, pl, dl, c, ps, ds, rfl, _⟩ := h; rfl) fun f cdv A outer s H vs Q E hr h => ⟨_, (pss_cons (ps_set (i := 2) sc_Linker_exchange.nd rfl (Or.inl rfl) (pe_met N_spot cl (hr.mono (by decide)) (L2N.passes_call (L2N.takes_of rfl rfl rfl rfl) fun _ _ _ _ h => h) (pv 0) (pa_cons (pe_ix (ixK (K := K)) (pv 1) pe_int (fun _ _ => rfl)) pa_nil))) (pss_cons (ps_expr (bmK (K := K) PySem.F.plainAttrs_list PySem.F.slot_list_append PySem.F.type_list_append mt_append (fldK (K := K) (pv 0) rfl) (pa_cons (pe_tup (pa_cons pe_str (pa_cons (pv 2) (pa_cons (pe_ix (ixK (K := K)) (fldK (K := K) (pv 0) rfl) (pv 2) (fun _ _ => rfl)) pa_nil)))) pa_nil))) (pss_one (ps_asg (pv 1) (pg_sub (fldK (K := K) (pv 0) rfl) (pv 2) set_list))))), ?_⟩
  obtain ⟨l, pl, dl, c, ps, ds, rfl, L, hc, hz, hz2, k1, k2⟩ := h
  refine x_body ?_
  obtain ⟨⟨dx, hi⟩, hp, hd, pok, dok, ne⟩ := id L
  obtain ⟨y1, y2, ht⟩ := hc.tup
  have hlen : (ps.map fun c => V.ref c.p).length = ps.length := List.length_map ..
  walk_at "go"
  refine ⟨l, c.nm, pl, dl, ps, ds, rfl, L, hz, fun i o H1 ho en kp => ?_, fun no => k2 no⟩
  have hil : i < ps.length := (List.getElem?_eq_some_iff.mp ho).1
  have hix : atI (ps.map fun c => V.ref c.p) (i : Int) = some (V.ref o.p) := atI_nat (by rw [List.getElem?_map, ho]; rfl)
  have ho1 : PcAt H1 o := (pok o (List.mem_of_getElem? ho)).kp kp
  walk_at "go"
  refine x_ixL (by walk_at "sq") hix ?_
  walk_at "go"
  rename_i T H2 kp2 hn2 e2 H3 kp3 e3
  have hp3 : H3 pl = some (.lst (ps.map fun c => V.ref c.p)) := by walk_at "hp"
  have hi3 : H3 l = some (.ins C dx (lf pl dl)) := by walk_at "hp"
  refine x_setL hp3 (ixN_nat (k := i) (by rw [hlen]; exact hil)) fun H4 kp4 e4 => ?_
  have e3' : H4 dl = some (.lst ((ds.map fun e => V.ref e.a) ++ [V.ref T])) := by walk_at "hp"
  have e2' : H4 T = some (.tup [.str "exchanged", .int (i : Int), .ref o.p]) := by walk_at "hp"
  have ho4 : PcAt H4 o := ((ho1.kp kp2).kp kp3).kp kp4
  have kk : Kp [pl, dl] H H4 := (((kp.nil (fp := [pl, dl])).trans kp2.nil).trans (kp3.mono (by simp))).trans (kp4.mono (by simp))
  refine k1 i o T H4 ho en kk (Lk.put (e := ⟨T, .exch, i, some o⟩) L kk (by rw [e4, List.map_set]) e3' ⟨e2', fun c' z => by cases z; exact ho4⟩ fun x hx => ?_)
  rcases List.mem_or_eq_of_mem_set hx with hx | hx
  · exact (pok x hx).kp kk
  · rw [hx]
    exact hc.kp kk
theorem N_take_out {CN : Addr} (Z : Blt mg) (cl : Cls K C) (nP : NoAttr K C "pieces") (nD : NoAttr K C "done") (N_spot : Met P w K mg base (L2N.CX P w) C "spot" 3 (spSpot C CN)) (M : MetAt K C "take_out" "Linker.take_out" s_Linker_take_out ["self", "name"]) :
    Met P w K mg base (L2N.CX P w) C "take_out" 4 (spTake C CN) := by
  refine M.okN sc_Linker_take_out (fun vs H Q E h => by obtain ⟨l, pl, dl, c, ps, ds, rfl, _⟩ := h; rfl) fun f cdv A outer s H vs Q E hr h => ⟨_, (pss_cons (ps_set (i := 2) sc_Linker_take_out.nd rfl (Or.inl rfl) (pe_met N_spot cl (hr.mono (by decide)) (L2N.passes_call (L2N.takes_of rfl rfl rfl rfl) fun _ _ _ _ h => h) (pv 0) (pa_cons (pv 1) pa_nil))) (pss_one (ps_expr (bmK (K := K) PySem.F.plainAttrs_list PySem.F.slot_list_append PySem.F.type_list_append mt_append (fldK (K := K) (pv 0) rfl) (pa_cons (pe_tup (pa_cons pe_str (pa_cons (pv 2) (pa_cons (bmK (K := K) PySem.F.plainAttrs_list PySem.F.slot_list_pop PySem.F.type_list_pop mt_popAt (fldK (K := K) (pv 0) rfl) (pa_cons (pv 2) pa_nil)) pa_nil)))) pa_nil))))), ?_⟩
  obtain ⟨l, pl, dl, nm, ps, ds, rfl, L, hz, hz2, k1, k2⟩ := h
  refine x_body ?_
  obtain ⟨⟨dx, hi⟩, hp, hd, pok, dok, ne⟩ := id L
  have hlen : (ps.map fun c => V.ref c.p).length = ps.length := List.length_map ..
  walk_at "go"
  refine ⟨l, nm, pl, dl, ps, ds, rfl, L, hz, fun i o H1 ho en kp => ?_, fun no => k2 no⟩
  have hil : i < ps.length := (List.getElem?_eq_some_iff.mp ho).1
  have ho1 : PcAt H1 o := (pok o (List.mem_of_getElem? ho)).kp kp
  walk_at "go"
  refine x_popAt (by walk_at "hp") (by rw [List.getElem?_map, ho]; rfl) (by omega) fun H2 kp2 e2 => ?_
  walk_at "go"
  rename_i T H3 kp3 hn3 e3 H4 kp4 e4
  have e2' : H4 pl = some (.lst ((ps.map fun c => V.ref c.p).eraseIdx i)) := by walk_at "hp"
  have e3' : H4 T = some (.tup [.str "taken", .int (i : Int), .ref o.p]) := by walk_at "hp"
  have ho4 : PcAt H4 o := ((ho1.kp kp2).kp kp3).kp kp4
  have kk : Kp [pl, dl] H H4 := (((kp.nil (fp := [pl, dl])).trans (kp2.mono (by simp))).trans kp3.nil).trans (kp4.mono (by simp))
  refine k1 i o T H4 ho en kk (Lk.put (e := ⟨T, .take, i, some o⟩) L kk (by rw [e2', erase_map]) e4 ⟨e3', fun c' z => by cases z; exact ho4⟩ fun x hx => ?_)
  exact (pok x (List.mem_of_mem_eraseIdx hx)).kp kk
abbrev s_Linker_do : Stmt := inClass (top 9) 9
theorem sc_Linker_do : FnScope ["self", "deed"] ["self", "deed"] (defScope s_Linker_do) := ⟨rfl, rfl, rfl, by decide +kernel, rfl, by decide +kernel, by decide +kernel⟩
theorem N_do {CM CT CN : Addr} (cl : Cls K C) (N_put : Met P w K mg base (L2N.CX P w) C "put" 3 (spPut C CM CT)) (N_exchange : Met P w K mg base (L2N.CX P w) C "exchange" 4 (spExch C CN)) (N_take_out : Met P w K mg base (L2N.CX P w) C "take_out" 4 (spTake C CN))
    (M : MetAt K C "do" "Linker.do" s_Linker_do ["self", "deed"]) : Met P w K mg base (L2N.CX P w) C "do" 5 (spDo C CM CT CN) := by
  refine M.okN sc_Linker_do (fun vs H Q E h => by obtain ⟨l, pl, dl, c, d, ps, ds, rfl, _⟩ := h; rfl) fun f cdv A outer s H vs Q E hr h => ⟨_, (pss_one (ps_if (pt_cmpR (eqK (K := K) hr.units) (pe_ix (ixK (K := K)) (pv 1) pe_int (fun _ _ => rfl)) pe_str (nomark _)) (pss_one (ps_expr (pe_met N_put cl (hr.mono (by decide)) (L2N.passes_call (L2N.takes_of rfl rfl rfl rfl) fun _ _ _ _ h => h) (pv 0) (pa_cons (pe_ix (ixK (K := K)) (pv 1) pe_int (fun _ _ => rfl)) pa_nil)))) (pss_one (ps_if (pt_cmpR (eqK (K := K) hr.units) (pe_ix (ixK (K := K)) (pv 1) pe_int (fun _ _ => rfl)) pe_str (nomark _)) (pss_one (ps_expr (pe_met N_exchange cl (hr.mono (by decide)) (L2N.passes_call (L2N.takes_of rfl rfl rfl rfl) fun _ _ _ _ h => h) (pv 0) (pa_cons (pe_ix (ixK (K := K)) (pv 1) pe_int (fun _ _ => rfl)) pa_nil)))) (pss_one (ps_expr (pe_met N_take_out cl (hr.mono (by decide)) (L2N.passes_call (L2N.takes_of rfl rfl rfl rfl) fun _ _ _ _ h => h) (pv 0) (pa_cons (pe_ix (ixK (K := K)) (pv 1) pe_int (fun _ _ => rfl)) pa_nil)))))))), ?_⟩
  obtain ⟨l, pl, dl, a, d, ps, ds, rfl, L, hd, hz, hz2, kE, kk⟩ := h
  refine x_body ?_
  obtain ⟨⟨dx, hi⟩, _⟩ := id L
  have ht := hd.tup
  walk_at "go"
  cases d with
  | put c =>
    refine k_is rfl ?_
    walk_at "go"
    refine ⟨l, pl, dl, c, ps, ds, rfl, L, hd.pc c List.mem_cons_self, hz, hz2, fun h => kE .many h, fun h1 h2 => kE .twin ⟨h1, h2⟩, fun h1 h2 b H' k' L' => kk _ _ H' ⟨h1, h2, rfl, rfl, rfl, rfl⟩ k' L'⟩
  | exch c =>
    refine k_no (show ¬ ("exchange" : Str) = "put" by decide +kernel) ?_
    walk_at "go"
    refine k_is rfl ?_
    walk_at "go"
    refine ⟨l, pl, dl, c, ps, ds, rfl, L, hd.pc c List.mem_cons_self, hz, hz2, fun i o b H' ho en k' L' => kk _ _ H' ⟨i, o, ho, en, rfl, rfl, rfl, rfl⟩ k' L', fun h => kE .piece h⟩
  | take nm =>
    refine k_no (show ¬ ("take" : Str) = "put" by decide +kernel) ?_
    walk_at "go"
    refine k_no (show ¬ ("take" : Str) = "exchange" by decide +kernel) ?_
    walk_at "go"
    refine ⟨l, pl, dl, nm, ps, ds, rfl, L, hz, hz2, fun i o b H' ho en k' L' => kk _ _ H' ⟨i, o, ho, en, rfl, rfl, rfl, rfl⟩ k' L', fun h => kE .piece h⟩
end
end WM
set_option Elab.async false
set_option linter.all false
set_option maxRecDepth 100000
set_option maxHeartbeats 2000000
namespace WM
open PySem PySem.Spec PyProof.Rows L2
local macro_rules | `(tactic| walk_at "ne") => `(tactic| first | assumption | exact Ne.symm (by assumption) | exact ne_fresh (by assumption) (by walk_at "hp") | exact (ne_fresh (by assumption) (by walk_at "hp")).symm | exact ne_kind (by walk_at "hp") (by walk_at "hp") (by intro z; cases z))
local macro_rules | `(tactic| walk_at "ni") => `(tactic| first | exact List.not_mem_nil | assumption | exact ni1 (by walk_at "ne") | exact ni2 (by walk_at "ne") (by walk_at "ne") | exact ni3 (by walk_at "ne") (by walk_at "ne") (by walk_at "ne"))
local macro_rules | `(tactic| walk_at "hp") => `(tactic| first | assumption | exact upd_same | (apply upd_getN; (assumption); (walk_at "hp")) | (apply Kp.tup; (assumption); (walk_at "hp")) | (apply Kp.get; (assumption); (walk_at "hp"); (walk_at "ni")))
local macro_rules | `(tactic| walk_at "sq") => `(tactic| first | assumption | exact SqL.of (by walk_at "hp") | (apply Kp.sqL; (assumption); (walk_at "sq"); (walk_at "ni")))
local macro_rules | `(tactic| walk_at "kp") => `(tactic| first | exact Kp.refl _ _ | assumption | exact Kp.nil (by assumption) | (refine' Kp.step (by assumption) ?_ (by first | exact fun _ z => z | exact fun _ z => nomatch z | simp); walk_at "kp"))
local macro_rules | `(tactic| walk_at "tp") => `(tactic| first | assumption | exact Tp.non | exact Tp.bl _ | exact Tp.int _ | exact Tp.str _ | (apply Tp.tup; (walk_at "hp"); (walk_at "tps")) | (apply Tp.kp; (assumption); (walk_at "tp")))
local macro_rules | `(tactic| walk_at "tps") => `(tactic| first | exact TpAll.nil | (refine TpAll.cons ?_ ?_; (walk_at "tp"); (walk_at "tps")))
local macro_rules | `(tactic| walk_at "lk") => `(tactic| first | assumption | rfl)
local macro_rules | `(tactic| walk_at "go1") => `(tactic| first | with_reducible refine x_seq ?_ | with_reducible refine x_asg ?_ | with_reducible refine x_drop ?_ | with_reducible refine x_ret ?_ | with_reducible refine x_if ?_ | with_reducible refine x_next ?_ | with_reducible refine x_par ?_ | with_reducible refine x_par3 ?_ | with_reducible refine x_two ?_ | with_reducible refine x_three ?_ | with_reducible refine x_sfld ?_ | with_reducible refine x_retN ?_ | with_reducible refine x_brk ?_ | with_reducible refine x_name ?_ | with_reducible refine x_gsub ?_ | with_reducible refine x_gcons ?_ | with_reducible refine x_gnil ?_ | ((with_reducible apply x_gtup); (walk_at "hp"); exact rfl) | ((with_reducible apply x_var); exact rfl) | with_reducible refine x_c ?_ | with_reducible refine x_op ?_ | with_reducible refine x_un ?_ | with_reducible refine x_nil ?_ | with_reducible refine x_cons ?_ | with_reducible refine x_tup ?_ | with_reducible refine x_lst ?_ | with_reducible refine x_fldE ?_ | ((with_reducible apply x_fld); (walk_at "hp"); assumption; assumption; (walk_at "lk")) | with_reducible refine x_cal ?_ | with_reducible refine x_metE ?_ | with_reducible refine x_calS ?_ | with_reducible refine x_metS ?_ | ((with_reducible apply x_met); (walk_at "hp"); (walk_at "lk")) | with_reducible refine x_newI ?_ | with_reducible refine x_cb ?_ | with_reducible refine x_bm ?_ | with_reducible refine x_bm0 ?_ | ((with_reducible apply x_bmL); (walk_at "hp")) | with_reducible refine x_sl ?_ | with_reducible refine x_nop ?_ | with_reducible refine x_part ?_ | with_reducible refine x_kP ?_ | with_reducible refine x_ife ?_ | with_reducible refine x_andV ?_ | with_reducible refine x_orV ?_ | with_reducible refine x_notV ?_ | with_reducible refine x_test ?_ | with_reducible refine x_tB ?_ | with_reducible refine x_kB ?_ | with_reducible refine x_and ?_ | with_reducible refine x_or ?_ | with_reducible refine x_not ?_ | with_reducible refine k_T ?_ | with_reducible refine k_F ?_ | with_reducible refine k_not ?_ | walk_at "go2")
local macro_rules | `(tactic| walk_at "go2") => `(tactic| first | ((with_reducible apply x_setF); (walk_at "hp"); assumption; assumption; exact Nat.le_of_ble_eq_true rfl; exact rfl; intro _ _ _) | ((with_reducible apply x_append); (walk_at "hp"); (first | omega | (simp; omega)); intro _ _ _) | ((with_reducible apply x_setL); (walk_at "hp"); exact rfl; intro _ _ _) | with_reducible refine x_addI ?_ | with_reducible refine x_cmp ?_ | with_reducible refine x_subI ?_ | with_reducible refine x_eqI ?_ | with_reducible refine x_eqS ?_ | with_reducible refine x_neI ?_ | with_reducible refine x_neS ?_ | with_reducible refine x_isNo ?_ | with_reducible refine x_notNo ?_ | ((with_reducible apply x_modI); (first | omega | decide)) | ((with_reducible apply x_divI); (first | omega | decide); (first | omega | decide)) | ((with_reducible apply x_mulI); (first | exact .inl ⟨by omega, by omega⟩ | exact .inr ⟨by decide, by decide⟩ | exact .inr ⟨by omega, by omega⟩)) | ((with_reducible apply x_powI); exact ⟨by decide, by decide, by decide⟩) | ((with_reducible apply x_ixT); (walk_at "hp"); exact rfl) | ((with_reducible apply x_ixL); (walk_at "sq"); exact rfl) | ((with_reducible apply x_lenL); (walk_at "sq")) | ((with_reducible apply x_newT); exact Nat.le_of_ble_eq_true rfl; intro _ _ _ _ _) | ((with_reducible apply x_newL); exact Nat.le_of_ble_eq_true rfl; intro _ _ _ _ _) | with_reducible refine x_for ?_ | with_reducible refine x_iL ?_ | with_reducible refine x_iR1 ?_ | with_reducible refine x_iR2 ?_ | with_reducible refine x_iE ?_ | ((with_reducible apply x_kIL); (walk_at "sq")) | ((with_reducible apply x_kE); (walk_at "sq")) | with_reducible refine x_lc ?_ | with_reducible refine x_yes ?_ | ((with_reducible apply x_wp); exact rfl))
local macro_rules | `(tactic| walk_at "go") => `(tactic| (walk_at "go1"; repeat walk_at "go1"))
local macro_rules | `(tactic| walk_at "fr") => `(tactic| first | assumption | exact Kp.free (by assumption) _ (by walk_at "fr"))
local macro_rules | `(tactic| walk_at "lk") => `(tactic| first | exact lf_p _ _ | exact lf_d _ _ | exact lf_no _ _ (by decide +kernel) (by decide +kernel))
local macro_rules | `(tactic| walk_at "go1") => `(tactic| first | with_reducible refine x_rs ?_ | ((with_reducible apply x_niS); (walk_at "sq")) | ((with_reducible apply x_inS); (walk_at "sq")))
/-! ### more of heaps -/
theorem Kp.new {fp fq : List Addr} {H H1 H2 : Hp} (k : Kp fp H H1) (l : Kp fq H1 H2) (h : ∀ b ∈ fq, H b = none) : Kp fp H H2 :=
  ⟨fun b o e n => l.keep b o (k.keep b o e n) (fun z => by rw [h b z] at e; cases e), fun b xs e => l.tups b xs (k.tups b xs e), fun b e => k.free b (l.free b e)⟩
mutual
theorem Tp.eqvR {H : Hp} : ∀ {d : PyData} {v : V}, Tp H v d → PyData.eqv d d = true
  | .none, _, h => by simp only [PyData.eqv]
  | .bool _, _, h => by simp only [PyData.eqv, beq_self_eq_true]
  | .int _, _, h => by simp only [PyData.eqv, beq_self_eq_true]
  | .str _, _, h => by simp only [PyData.eqv, beq_self_eq_true]
  | .tuple _, _, h => by
    cases h with
    | tup e t => simp only [PyData.eqv]; exact TpAll.eqvR t
  | .list _, _, h => by cases h
  | .dict _, _, h => by cases h
theorem TpAll.eqvR {H : Hp} : ∀ {ds : List PyData} {vs : List V}, TpAll H vs ds → PyData.eqvAll ds ds = true
  | [], _, h => by simp only [PyData.eqvAll]
  | _ :: _, _, h => by
    cases h with
    | cons a b => simp only [PyData.eqvAll, Tp.eqvR a, TpAll.eqvR b, Bool.and_self]
end
theorem eqv_pcs {H : Hp} {ps : List Pc} (h : ∀ c ∈ ps, PcAt H c) : PyData.eqv (.list (ps.map (·.d))) (.list (ps.map (·.d))) = true := by
  simp only [PyData.eqv]
  exact TpAll.eqvR (tpAll_map (fun c : Pc => V.ref c.p) (fun c : Pc => c.d) fun c hc => (h c hc).dat)
/-! ### rules by promise -/
section
variable {X : Cx} {CX : CXT} {C : Addr} {k : Nat} {sp : Sp} {E : XK}
theorem lenM (M : Met X.prog X.w X.K X.mg X.base CX C "__len__" k sp) (hr : Room (k + 1) X.A) (hx : Passes CX X E) : CallR X (.builtin "len") (rLenI C sp E) := by
  obtain ⟨f, fd, ps, F, hf, hi, hk, hb⟩ := M.ex
  exact call_lenI F hf hi hr hb hx
theorem eqM (M : Met X.prog X.w X.K X.mg X.base CX C "__eq__" k sp) (hr : Room k X.A) (hx : Passes CX X E) : OpR X (compareOp .Eq) (rEqI C sp E) := by
  obtain ⟨f, fd, ps, F, hf, hi, hk, hb⟩ := M.ex
  exact op_eqI F hf hi hr hb hx
end
section
variable {K : PySem.W.Frag} {H : Hp} {Q : VK} {a b : Addr} {C : Addr} {sp : Sp} {E : XK}
theorem x_lenI {dx : Addr} {fs : List (Str × V)} (h : H a = some (.ins C dx fs)) (q : sp [.ref a] H (fun v H' => ∃ n : Int, v = .int n ∧ 0 ≤ n ∧ n < 2 ^ 63 ∧ Q (.int n) H') E) : rLenI C sp E [.ref a] H Q := ⟨a, dx, fs, rfl, h, q⟩
theorem x_eqO {dx dy : Addr} {fs gs : List (Str × V)} (h : H a = some (.ins C dx fs)) (h' : H b = some (.ins C dy gs)) (q : sp [.ref a, .ref b] H (fun v H' => ∃ t, v = .bl t ∧ Q (.bl t) H') E) : rEqI C sp E (.ref a) (.ref b) H Q := ⟨a, b, dx, dy, fs, gs, rfl, rfl, h, h', q⟩
theorem x_newL0 {E : XK} (h : ∀ l pl dl H', Kp [] H H' → H l = none → H pl = none → H dl = none → l ≠ pl → l ≠ dl → Lk C H' l pl dl [] [] → Q (.ref l) H') : kNew C (spNew C) E [] H Q := by
  intro x dx hx hd ne
  refine ⟨x, dx, rfl, upd_same, fun pl dl H' k n1 n2 L => ⟨rfl, ?_⟩⟩
  have k1 : Kp [] H (upd (upd H dx (.own x)) x (.ins C dx [])) := ((Kp.refl [] H).updNew hd).updFree hx
  have k2 : Kp [] H H' := k1.new k fun b hb => by rw [List.mem_singleton.mp hb]; exact hx
  have np : pl ≠ x := fun z => by rw [z, upd_same] at n1; cases n1
  have nq : dl ≠ x := fun z => by rw [z, upd_same] at n2; cases n2
  exact h x pl dl H' k2 hx (k1.free _ n1) (k1.free _ n2) np.symm nq.symm L
theorem x_isL {p : Addr} {xs : List V} (e : H p = some (.lst xs)) (kit : PySem.W.kitOne K (.type "list") (.type "list") = some true) (q : Q (.bl true) H) : rIsi K [.ref p, .ty "list"] H Q := ⟨_, _, _, _, _, rfl, .ty _, .base (.lst e), kit, q⟩
theorem x_isV {D dd : Addr} {fs : List (Str × V)} {c : V} {cv : Value} {b : Bool} (h1 : H a = some (exv a (.ref D) (some dd))) (h2 : H dd = some (.xd fs)) (T : ExcK K D) (hc : ClsV c cv) (e : PySem.W.kitOne K (.ref D) cv = some b) (q : Q (.bl b) H) : rIsV K [.ref a, c] H Q :=
  ⟨a, D, dd, fs, c, cv, b, rfl, ⟨h1, h2⟩, T, hc, e, q⟩
def kXv (K : PySem.W.Frag) (f : Str) (Q : VK) : VK := fun x H1 => ∃ (a D dd : Addr) (fs : List (Str × V)) (v : V), x = .ref a ∧ ExAt H1 a D dd fs ∧ ExcK K D ∧ PySem.W.findIn K (.ref D) f = some none ∧ fs.lookup f = some v ∧ Q v H1
theorem x_xvE {f : Str} {te : TE} {σ : L2.St} (h : te σ H (kXv K f Q)) : tXv K f te σ H Q := h
theorem x_xv {D dd : Addr} {f : Str} {v : V} (h1 : H a = some (exv a (.ref D) (some dd))) (h2 : H dd = some (.xd [(f, v)])) (T : ExcK K D) (n : PySem.W.findIn K (.ref D) f = some none) (q : Q v H) : kXv K f Q (.ref a) H :=
  ⟨a, D, dd, _, v, rfl, ⟨h1, h2⟩, T, n, by simp [List.lookup], q⟩
theorem x_cnt {ys : List V} {y : V} (ha : SqL K H a ys) (f1 : flatV y = true) (f2 : ys.all flatV = true) (q : Q (.int (ys.countP fun z => eqV z y : Nat)) H) : rCntF K (.ref a) [y] H Q := ⟨a, ys, y, rfl, rfl, ha, f1, f2, q⟩
theorem x_idx {ys : List V} {y z : V} {j : Nat} (ha : SqL K H a ys) (f1 : flatV y = true) (f2 : ys.all flatV = true) (e : ys[j]? = some z) (e2 : eqV z y = true) (no : ∀ (m : Nat) (z' : V), m < j → ys[m]? = some z' → eqV z' y = false) (q : Q (.int (j : Nat)) H) : rIndex K (.ref a) [y] H Q :=
  ⟨a, ys, y, j, z, rfl, rfl, ha, f1, f2, e, e2, no, q⟩
theorem not_before {c : Pc} {ps : List Pc} {i : Nat} (nd : (ps.map (·.nm)).Nodup) (h : ps[i]? = some c) : c.nm ∉ (ps.take i).map (·.nm) := by
  intro z
  obtain ⟨o, ho, e⟩ := List.mem_map.mp z
  obtain ⟨j, hj⟩ := List.getElem?_of_mem ho
  have hj' := (List.getElem?_eq_some_iff.mp hj).1
  rw [List.length_take] at hj'
  have hji : j < i := by omega
  rw [List.getElem?_take_of_lt hji] at hj
  have hjl : j < ps.length := by omega
  have hil : i < ps.length := (List.getElem?_eq_some_iff.mp h).1
  have e1 : (ps.map (·.nm))[j]? = (ps.map (·.nm))[i]? := by rw [List.getElem?_map, List.getElem?_map, hj, h]; simp [e]
  have := (List.getElem?_inj (by rw [List.length_map]; exact hjl) nd).mp e1
  omega
end
local macro_rules | `(tactic| walk_at "go1") => `(tactic| first | with_reducible refine x_xvE ?_ | ((with_reducible apply x_isV); (walk_at "hp"); (walk_at "hp"); assumption; (first | exact ClsV.own _ | exact ClsV.ty _); assumption) | ((with_reducible apply x_xv); (walk_at "hp"); (walk_at "hp"); assumption; assumption) | ((with_reducible apply x_addL); (walk_at "hp"); (walk_at "hp"); exact Nat.le_of_ble_eq_true rfl; intro _ _ _ _ _))
section
variable {P : Program} {w : World} {K : PySem.W.Frag} {mg : Str → Option Value} {base : Heap} {C : Addr}
def spLike (C : Addr) : Sp := fun vs H Q _ => ∃ (l pl dl r : Addr) (ps : List Pc) (ds : List Dn), vs = [.ref l, .ref r] ∧ Lk C H l pl dl ps ds ∧ Rows H r ps ∧ (ps.map (·.nm)).Nodup ∧ (∀ c ∈ ps, NmOk c.nm) ∧ ps.length ≤ 30 ∧ ∀ H', Kp [] H H' → Q (.bl true) H'
abbrev s_e_like : Stmt := top 19
theorem sc_e_like : FnScope ["linker", "rows", "other", "piece", "told"] ["linker", "rows"] (defScope s_e_like) := ⟨rfl, rfl, rfl, by decide +kernel, rfl, by decide +kernel, by decide +kernel⟩
theorem D_like {CM CT : Addr} (Z : Blt mg) (cl : Cls K C) (kitL : PySem.W.kitOne K (.type "list") (.type "list") = some true) (D_Linker_init : Met P w K mg base CX0 C "__init__" 1 (spNew C)) (MK_Linker : ClsMk K mg "Linker" C) (M_put : Met P w K mg base (L2.CX P w) C "put" 3 (spPut C CM CT))
    (M_names : Met P w K mg base CX0 C "names" 1 (spNames C)) (M_len : Met P w K mg base CX0 C "__len__" 1 (spLen C)) (M_eq : Met P w K mg base CX0 C "__eq__" 1 (spEqL C)) (D : DefAt K mg "_law_e_like" s_e_like ["linker", "rows"]) : Def P w K mg base CX0 "_law_e_like" 4 (spLike C) := by
  refine D.ok sc_e_like (fun vs H Q E h => by obtain ⟨l, pl, dl, r, ps, ds, rfl, _⟩ := h; rfl) fun f cdv A outer s H vs Q E hr h => ⟨_, (pss_cons (ps_set (i := 2) sc_e_like.nd rfl (Or.inl rfl) (pe_new0 D_Linker_init MK_Linker (hr.mono (by decide)) pass0)) (pss_cons (ps_for PassesOwn.never rfl (listIt (K := K) (pv 1)) (pg_name (i := 3) sc_e_like.nd rfl (Or.inl rfl)) (pss_one (ps_expr (pe_met M_put cl (hr.mono (by decide)) passL (pv 2) (pa_cons (pv 3) pa_nil))))) (pss_cons (ps_set (i := 4) sc_e_like.nd rfl (Or.inl rfl) (pe_met0 M_names cl (hr.mono (by decide)) pass0 (pv 0))) (pss_cons (ps_if (PW.pt (pw_or (pt_not (pt_val (pe_callB (isiK (K := K)) (by rfl) Z.isinstance (by decide +kernel) (pa_cons (pv 4) (pa_cons (pe_bltn (v := .ty "list") (u := .type "list") (by rfl) Z.list (by decide +kernel) rfl) pa_nil))))) (pw_or (pt_cmpR (neK (K := K) hr.units) (pv 4) (pe_lc (own := [("piece", 3)]) (g := gName 3) rfl sc_e_like.nd (listIt (K := K) (pv 1)) (blkOk_by (own := [("piece", 3)]) (N := ["linker", "rows", "other", "piece", "told"]) (sc := defScope s_e_like) (by decide +kernel)) (fun _ _ _ _ _ => (pg_name (i := 3) sc_e_like.nd rfl (Or.inl rfl))) (fun _ _ _ _ _ => pts_nil) (fun _ _ _ _ _ => (pe_ix (ixK (K := K)) (pv 3) pe_int (fun _ _ => rfl)))) (nomark _)) (pw_or1 (pt_cmpR (neK (K := K) hr.units) (pe_callB (lenM M_len (hr.mono (by decide)) pass0) (by rfl) Z.len PySem.boot_len (pa_cons (pv 0) pa_nil)) (pe_callB (lenK (K := K)) (by rfl) Z.len PySem.boot_len (pa_cons (pv 1) pa_nil)) (nomark _)))))) (pss_one (ps_ret pe_bl)) pss_nil) (pss_one (ps_ret (pe_and (pe_cmpR (eqM M_eq (hr.mono (by decide)) pass0) (pv 0) (pv 2) (nomark _)) (pe_one (pe_cmpR (eqM M_eq (hr.mono (by decide)) pass0) (pv 2) (pv 0) (nomark _)))))))))), ?_⟩
  obtain ⟨l, pl, dl, r, ps, ds, rfl, L, R, nd, nok, hz, k⟩ := h
  obtain ⟨⟨dx, hi⟩, hp, hd, pok, dok, ne⟩ := id L
  have hR := R.lst
  have hlen : (ps.map fun c => V.ref c.p).length = ps.length := List.length_map ..
  refine x_body ?_
  walk_at "go"
  refine x_newL0 fun m ql el H1 k1 n1 n2 n3 d1 d2 L1 => ?_
  walk_at "go"
  refine k_forL (fun i σ H' => ∃ v3 es, σ = [some (.ref l), some (.ref r), some (.ref m), v3, none] ∧ Kp [] H H' ∧ Lk C H' m ql el (ps.take i) es ∧ es.length = i) ⟨none, [], rfl, k1, by rw [List.take_zero]; exact L1, rfl⟩ (fun i σ H' _ ⟨_, _, _, k, _⟩ => SqL.of (k.get hR List.not_mem_nil)) ?_ ?_
  · rintro i x σ H2 hx ⟨v3, es, rfl, k2, L2, le⟩
    obtain ⟨c, hc, rfl⟩ := Option.map_eq_some_iff.mp (List.getElem?_map .. ▸ hx)
    have hil : i < ps.length := (List.getElem?_eq_some_iff.mp hc).1
    obtain ⟨⟨dx2, hi2⟩, _⟩ := id L2
    walk_at "go"
    refine ⟨m, ql, el, c, ps.take i, es, rfl, L2, (R.ok c (List.mem_of_getElem? hc)).kp k2, by rw [List.length_take]; omega, by omega, fun z => ?_, fun _ z => absurd z (not_before nd hc), fun _ _ a H3 k3 L3 => ?_⟩
    · rw [List.length_take] at z
      omega
    · refine ⟨_, _, rfl, k2.new k3 fun b hb => ?_, by rw [List.take_succ, hc]; exact L3, by rw [List.length_append, le]; rfl⟩
      rcases List.mem_cons.mp hb with rfl | hb
      · exact n2
      · rw [List.mem_singleton.mp hb]
        exact n3
  · rintro σ H2 ⟨v3, es, rfl, k2, L2, le⟩
    rw [hlen, List.take_length] at L2
    have LL := L.kp k2 List.not_mem_nil List.not_mem_nil List.not_mem_nil
    obtain ⟨⟨dx2, hi2⟩, _⟩ := id LL
    walk_at "go"
    refine ⟨l, pl, dl, ps, ds, rfl, LL, by omega, fun p H3 k3 n3 e3 => ?_⟩
    walk_at "go"
    refine x_isL e3 kitL ?_
    walk_at "go"
    refine lc_nms (R.kp (k2.trans k3) List.not_mem_nil) (by omega) (by simp) fun q H4 k4 n4 e4 => ?_
    have e34 : H4 p = some (.lst ((ps.map (·.nm)).map V.str)) := by walk_at "hp"
    have shs : Shp 60 (.list ((ps.map (·.nm)).map PyData.str)) := (shp_list (n := 1) fun x hx => by
      obtain ⟨c, hc, rfl⟩ := List.mem_map.mp hx
      exact Shp.str (nok c hc).ok).mono (by decide)
    have tps : ∀ x ∈ ps.map (·.nm), Tp H4 (V.str x) (PyData.str x) := fun x _ => .str x
    refine x_neD (dp_list e34 tps) (dp_list e4 tps) shs shs ?_
    have er : PyData.eqv (.list ((ps.map (·.nm)).map PyData.str)) (.list ((ps.map (·.nm)).map PyData.str)) = true := by
      simp only [PyData.eqv]
      exact TpAll.eqvR (tpAll_map _ _ tps)
    walk_at "go"
    refine k_bT er ?_
    have LL4 := (LL.kp k3 List.not_mem_nil List.not_mem_nil List.not_mem_nil).kp k4 List.not_mem_nil List.not_mem_nil List.not_mem_nil
    have LM4 := (L2.kp k3 List.not_mem_nil List.not_mem_nil List.not_mem_nil).kp k4 List.not_mem_nil List.not_mem_nil List.not_mem_nil
    obtain ⟨⟨dx4, hi4⟩, _⟩ := id LL4
    obtain ⟨⟨dy4, hj4⟩, _⟩ := id LM4
    have kk : Kp [] H H4 := (k2.trans k3).trans k4
    walk_at "go"
    refine x_lenI hi4 ⟨l, pl, dl, ps, ds, rfl, LL4, ps.length, rfl, by omega, by omega, ?_⟩
    walk_at "go"
    rw [hlen]
    refine k_is rfl ?_
    walk_at "go"
    have eq1 := eqv_pcs pok
    refine x_eqO hi4 hj4 ⟨l, pl, dl, m, ql, el, ps, ps, ds, es, rfl, LL4, LM4, true, by rw [eq1], ?_⟩
    walk_at "go"
    refine x_eqO hj4 hi4 ⟨m, ql, el, l, pl, dl, ps, ps, es, ds, rfl, LM4, LL4, true, by rw [eq1], ?_⟩
    exact k H4 kk
end
end WM
set_option Elab.async false
set_option linter.all false
set_option maxRecDepth 100000
set_option maxHeartbeats 2000000
namespace WM
open PySem PySem.Spec PyProof.Rows L2
/-! ### deeds and their undoing, plainly -/
def Dd.kd : Dd → Kd
  | .put _ => .put | .exch _ => .exch | .take _ => .take
theorem Step.kd {ps qs : List Pc} {e : Dn} : ∀ {d : Dd}, Step ps d qs e → e.k = d.kd
  | .put _, h => h.2.2.2.1
  | .exch _, h => by obtain ⟨i, o, _, _, _, h, _⟩ := h; exact h
  | .take _, h => by obtain ⟨i, o, _, _, _, h, _⟩ := h; exact h
theorem eraseIdx_last {α : Type} (l : List α) (a : α) : (l ++ [a]).eraseIdx l.length = l := by
  rw [List.eraseIdx_append_of_length_le (Nat.le_refl _), Nat.sub_self]
  simp
theorem set_back {α : Type} {l : List α} {i : Nat} {o c : α} (h : l[i]? = some o) : (l.set i c).set i o = l := by
  rw [List.set_set]
  obtain ⟨hi, e⟩ := List.getElem?_eq_some_iff.mp h
  rw [← e]
  exact List.set_getElem_self hi
theorem put_back {α : Type} {l : List α} {i : Nat} {o : α} (h : l[i]? = some o) : l = (l.eraseIdx i).take i ++ [o] ++ (l.eraseIdx i).drop i := by
  obtain ⟨hi, e⟩ := List.getElem?_eq_some_iff.mp h
  have hl : (l.take i).length = i := by rw [List.length_take]; omega
  rw [erase_cut, List.take_append_of_le_length (by omega), List.take_take, Nat.min_self, List.drop_append_of_le_length (by omega), List.drop_take_self, List.nil_append, ← e, ← set_cut l i l[i] hi, List.set_getElem_self]
theorem Step.undo {ps qs : List Pc} {e : Dn} : ∀ {d : Dd}, Step ps d qs e → Undo qs e ps
  | .put c, h => by
    obtain ⟨a, k, t, p⟩ := e
    obtain ⟨_, _, rfl, rfl, rfl, rfl⟩ := h
    refine ⟨?_, (eraseIdx_last ps c).symm⟩
    show ps.length < _
    rw [List.length_append]
    exact Nat.lt_succ_self _
  | .exch c, h => by
    obtain ⟨a, k, t, p⟩ := e
    obtain ⟨i, o, ho, _, rfl, rfl, rfl, rfl⟩ := h
    refine ⟨?_, (set_back ho).symm⟩
    rw [List.length_set]
    exact (List.getElem?_eq_some_iff.mp ho).1
  | .take nm, h => by
    obtain ⟨a, k, t, p⟩ := e
    obtain ⟨i, o, ho, _, rfl, rfl, rfl, rfl⟩ := h
    refine ⟨?_, put_back ho⟩
    have hi : t < ps.length := (List.getElem?_eq_some_iff.mp ho).1
    show t ≤ _
    rw [List.length_eraseIdx_of_lt hi]
    omega
theorem at_nm {ps : List Pc} {i j : Nat} {o c : Pc} (nd : (ps.map (·.nm)).Nodup) (h : ps[i]? = some o) (h' : ps[j]? = some c) (e : o.nm = c.nm) : i = j := by
  have hi : i < (ps.map (·.nm)).length := by rw [List.length_map]; exact (List.getElem?_eq_some_iff.mp h).1
  exact (List.getElem?_inj hi nd).mp (by rw [List.getElem?_map, List.getElem?_map, h, h']; simp [e])
theorem Step.after {ps qs rs : List Pc} {e : Dn} (nd : (ps.map (·.nm)).Nodup) : ∀ {d : Dd}, Step ps d qs e → After ps d rs → rs = qs
  | .put c, h, h' => by rw [h.2.2.1]; exact h'
  | .exch c, h, h' => by
    obtain ⟨i, o, ho, eo, rfl, _⟩ := h
    obtain ⟨j, u, hu, eu, rfl⟩ := h'
    rw [at_nm nd ho hu (eo.trans eu.symm)]
  | .take c, h, h' => by
    obtain ⟨i, o, ho, eo, rfl, _⟩ := h
    obtain ⟨j, u, hu, eu, rfl⟩ := h'
    rw [at_nm nd ho hu (eo.trans eu.symm)]
theorem Step.nd {ps qs : List Pc} {e : Dn} (nd : (ps.map (·.nm)).Nodup) : ∀ {d : Dd}, Step ps d qs e → (qs.map (·.nm)).Nodup
  | .put c, h => by
    obtain ⟨_, hn, rfl, _⟩ := h
    rw [List.map_append, List.nodup_append]
    refine ⟨nd, by simp, fun a ha b hb => ?_⟩
    rw [List.mem_singleton.mp hb]
    rintro rfl
    exact hn ha
  | .exch c, h => by
    obtain ⟨i, o, ho, eo, rfl, _⟩ := h
    have z : (ps.set i c).map (·.nm) = ps.map (·.nm) := by
      rw [List.map_set, ← eo]
      have hi : (ps.map (·.nm))[i]? = some o.nm := by rw [List.getElem?_map, ho]; rfl
      obtain ⟨hi', e'⟩ := List.getElem?_eq_some_iff.mp hi
      rw [← e']
      exact List.set_getElem_self hi'
    rw [z]
    exact nd
  | .take c, h => by
    obtain ⟨i, o, ho, eo, rfl, _⟩ := h
    rw [← erase_map]
    exact nd.sublist (List.eraseIdx_sublist _ _)
theorem Step.ok {ps qs : List Pc} {e : Dn} (ok : ∀ c ∈ ps, NmG c.nm) : ∀ {d : Dd}, NmG d.nm → Step ps d qs e → ∀ c ∈ qs, NmG c.nm
  | .put c, hc, h => by
    obtain ⟨_, hn, rfl, _⟩ := h
    intro x hx
    rcases List.mem_append.mp hx with hx | hx
    · exact ok x hx
    · rw [List.mem_singleton.mp hx]
      exact hc
  | .exch c, hc, h => by
    obtain ⟨i, o, ho, eo, rfl, _⟩ := h
    intro x hx
    rcases List.mem_or_eq_of_mem_set hx with hx | hx
    · exact ok x hx
    · rw [hx]
      exact hc
  | .take c, hc, h => by
    obtain ⟨i, o, ho, eo, rfl, _⟩ := h
    intro x hx
    exact ok x (List.mem_of_mem_eraseIdx hx)
theorem Step.len {ps qs : List Pc} {e : Dn} : ∀ {d : Dd}, Step ps d qs e → qs.length ≤ ps.length + 1
  | .put c, h => by
    obtain ⟨_, hn, rfl, _⟩ := h
    rw [List.length_append]
    exact Nat.le_refl _
  | .exch c, h => by
    obtain ⟨i, o, ho, eo, rfl, _⟩ := h
    rw [List.length_set]
    omega
  | .take c, h => by
    obtain ⟨i, o, ho, eo, rfl, _⟩ := h
    have := List.length_eraseIdx_le ps i
    omega
theorem Fit.noRef {ps : List Pc} (hz : ps.length < 30) : ∀ {d : Dd} {r : Rf}, Fit ps d → Refs ps d r → False
  | .put c, .many, _, h => by
    have : 30 ≤ ps.length := h
    omega
  | .put c, .twin, f, h => by
    obtain ⟨o, ho, e⟩ := List.mem_map.mp h.2
    exact f o ho e
  | .exch c, .piece, f, h => by
    obtain ⟨o, ho, e⟩ := f
    exact h o ho e
  | .take nm, .piece, f, h => by
    obtain ⟨o, ho, e⟩ := f
    exact h o ho e
structure Bg (C : Addr) (H : Hp) (l pl dl r e : Addr) (wv : V) (ps qs : List Pc) (ds : List Dn) : Prop where
  L : Lk C H l pl dl ps ds
  R : Rows H r ps
  E : Rows H e qs
  n1 : r ∉ [pl, dl]
  n2 : e ∉ [pl, dl]
  nd : (ps.map (·.nm)).Nodup
  ok : ∀ c ∈ ps, NmG c.nm
  le : ps.length ≤ 30
  nd' : (qs.map (·.nm)).Nodup
  ok' : ∀ c ∈ qs, NmG c.nm
  le' : qs.length ≤ 30
  dz : ds.length ≤ 100
  last : (ds = [] ∧ wv = .non ∧ qs = [] ∧ ps = []) ∨ ∃ es d, ds = es ++ [d] ∧ wv = .str d.k.w ∧ Undo ps d qs
theorem Bg.kp {C : Addr} {H H' : Hp} {l pl dl r e : Addr} {wv : V} {ps qs : List Pc} {ds : List Dn} {fp : List Addr} (k : Kp fp H H') (h : Bg C H l pl dl r e wv ps qs ds) (m1 : l ∉ fp) (m2 : pl ∉ fp) (m3 : dl ∉ fp) (m4 : r ∉ fp) (m5 : e ∉ fp) : Bg C H' l pl dl r e wv ps qs ds :=
  ⟨h.L.kp k m1 m2 m3, h.R.kp k m4, h.E.kp k m5, h.n1, h.n2, h.nd, h.ok, h.le, h.nd', h.ok', h.le', h.dz, h.last⟩
theorem Bg.step {C : Addr} {H H' : Hp} {l pl dl r e r' : Addr} {wv : V} {ps qs ps' : List Pc} {ds : List Dn} {d : Dd} {dn : Dn} (h : Bg C H l pl dl r e wv ps qs ds) (st : Step ps d ps' dn) (L : Lk C H' l pl dl ps' (ds ++ [dn])) (R : Rows H' r' ps') (E : Rows H' r ps) (n : r' ∉ [pl, dl]) (hd : NmG d.nm) (le : ps'.length ≤ 30) (dz : ds.length < 100) :
    Bg C H' l pl dl r' r (.str d.kd.w) ps' ps (ds ++ [dn]) :=
  ⟨L, R, E, n, h.n1, st.nd h.nd, st.ok h.ok hd, le, h.nd, h.ok, h.le, by rw [List.length_append]; exact dz, .inr ⟨ds, dn, rfl, by rw [st.kd], st.undo⟩⟩
def nmOf (i : Nat) : Str := ("n" : Str) ++ (toString (i : Int) : String)
theorem nmOf_ok : ∀ i, i < 30 → NmG (nmOf i) := by
  have h1 : ∀ i, i < 30 → PyData.strOk (nmOf i) = true := by decide +kernel
  have h2 : ∀ i, i < 30 → (nmOf i).length ≤ 20 := by decide +kernel
  have h3 : ∀ i, i < 30 → (nmOf i).length ≠ 4 := by decide +kernel
  have h4 : ∀ i, i < 30 → (nmOf i).length ≠ 6 := by decide +kernel
  exact fun i hi => ⟨⟨h1 i hi, h2 i hi⟩, h3 i hi, h4 i hi⟩
theorem nmOf_new : ∀ i, i < 30 → nmOf i ∉ (List.range i).map nmOf := by decide +kernel
end WM
set_option Elab.async false
set_option linter.all false
set_option maxRecDepth 100000
set_option maxHeartbeats 2000000
namespace WM
open PySem PySem.Spec PyProof.Rows L2
local macro_rules | `(tactic| walk_at "ne") => `(tactic| first | assumption | exact Ne.symm (by assumption) | exact ne_fresh (by assumption) (by walk_at "hp") | exact (ne_fresh (by assumption) (by walk_at "hp")).symm | exact ne_kind (by walk_at "hp") (by walk_at "hp") (by intro z; cases z))
local macro_rules | `(tactic| walk_at "ni") => `(tactic| first | exact List.not_mem_nil | assumption | exact ni1 (by walk_at "ne") | exact ni2 (by walk_at "ne") (by walk_at "ne") | exact ni3 (by walk_at "ne") (by walk_at "ne") (by walk_at "ne"))
local macro_rules | `(tactic| walk_at "hp") => `(tactic| first | assumption | exact upd_same | (apply upd_getN; (assumption); (walk_at "hp")) | (apply Kp.tup; (assumption); (walk_at "hp")) | (apply Kp.get; (assumption); (walk_at "hp"); (walk_at "ni")))
local macro_rules | `(tactic| walk_at "sq") => `(tactic| first | assumption | exact SqL.of (by walk_at "hp") | (apply Kp.sqL; (assumption); (walk_at "sq"); (walk_at "ni")))
local macro_rules | `(tactic| walk_at "kp") => `(tactic| first | exact Kp.refl _ _ | assumption | exact Kp.nil (by assumption) | (refine' Kp.step (by assumption) ?_ (by first | exact fun _ z => z | exact fun _ z => nomatch z | simp); walk_at "kp"))
local macro_rules | `(tactic| walk_at "tp") => `(tactic| first | assumption | exact Tp.non | exact Tp.bl _ | exact Tp.int _ | exact Tp.str _ | (apply Tp.tup; (walk_at "hp"); (walk_at "tps")) | (apply Tp.kp; (assumption); (walk_at "tp")))
local macro_rules | `(tactic| walk_at "tps") => `(tactic| first | exact TpAll.nil | (refine TpAll.cons ?_ ?_; (walk_at "tp"); (walk_at "tps")))
local macro_rules | `(tactic| walk_at "lk") => `(tactic| first | assumption | rfl)
local macro_rules | `(tactic| walk_at "go1") => `(tactic| first | with_reducible refine x_seq ?_ | with_reducible refine x_asg ?_ | with_reducible refine x_drop ?_ | with_reducible refine x_ret ?_ | with_reducible refine x_if ?_ | with_reducible refine x_next ?_ | with_reducible refine x_par ?_ | with_reducible refine x_par3 ?_ | with_reducible refine x_two ?_ | with_reducible refine x_three ?_ | with_reducible refine x_sfld ?_ | with_reducible refine x_retN ?_ | with_reducible refine x_brk ?_ | with_reducible refine x_name ?_ | with_reducible refine x_gsub ?_ | with_reducible refine x_gcons ?_ | with_reducible refine x_gnil ?_ | ((with_reducible apply x_gtup); (walk_at "hp"); exact rfl) | ((with_reducible apply x_var); exact rfl) | with_reducible refine x_c ?_ | with_reducible refine x_op ?_ | with_reducible refine x_un ?_ | with_reducible refine x_nil ?_ | with_reducible refine x_cons ?_ | with_reducible refine x_tup ?_ | with_reducible refine x_lst ?_ | with_reducible refine x_fldE ?_ | ((with_reducible apply x_fld); (walk_at "hp"); assumption; assumption; (walk_at "lk")) | with_reducible refine x_cal ?_ | with_reducible refine x_metE ?_ | with_reducible refine x_calS ?_ | with_reducible refine x_metS ?_ | ((with_reducible apply x_met); (walk_at "hp"); (walk_at "lk")) | with_reducible refine x_newI ?_ | with_reducible refine x_cb ?_ | with_reducible refine x_bm ?_ | with_reducible refine x_bm0 ?_ | ((with_reducible apply x_bmL); (walk_at "hp")) | with_reducible refine x_sl ?_ | with_reducible refine x_nop ?_ | with_reducible refine x_part ?_ | with_reducible refine x_kP ?_ | with_reducible refine x_ife ?_ | with_reducible refine x_andV ?_ | with_reducible refine x_orV ?_ | with_reducible refine x_notV ?_ | with_reducible refine x_test ?_ | with_reducible refine x_tB ?_ | with_reducible refine x_kB ?_ | with_reducible refine x_and ?_ | with_reducible refine x_or ?_ | with_reducible refine x_not ?_ | with_reducible refine k_T ?_ | with_reducible refine k_F ?_ | with_reducible refine k_not ?_ | walk_at "go2")
local macro_rules | `(tactic| walk_at "go2") => `(tactic| first | ((with_reducible apply x_setF); (walk_at "hp"); assumption; assumption; exact Nat.le_of_ble_eq_true rfl; exact rfl; intro _ _ _) | ((with_reducible apply x_append); (walk_at "hp"); (first | omega | (simp; omega)); intro _ _ _) | ((with_reducible apply x_setL); (walk_at "hp"); exact rfl; intro _ _ _) | with_reducible refine x_addI ?_ | with_reducible refine x_cmp ?_ | with_reducible refine x_subI ?_ | with_reducible refine x_eqI ?_ | with_reducible refine x_eqS ?_ | with_reducible refine x_neI ?_ | with_reducible refine x_neS ?_ | with_reducible refine x_isNo ?_ | with_reducible refine x_notNo ?_ | ((with_reducible apply x_modI); (first | omega | decide)) | ((with_reducible apply x_divI); (first | omega | decide); (first | omega | decide)) | ((with_reducible apply x_mulI); (first | exact .inl ⟨by omega, by omega⟩ | exact .inr ⟨by decide, by decide⟩ | exact .inr ⟨by omega, by omega⟩)) | ((with_reducible apply x_powI); exact ⟨by decide, by decide, by decide⟩) | ((with_reducible apply x_ixT); (walk_at "hp"); exact rfl) | ((with_reducible apply x_ixL); (walk_at "sq"); exact rfl) | ((with_reducible apply x_lenL); (walk_at "sq")) | ((with_reducible apply x_newT); exact Nat.le_of_ble_eq_true rfl; intro _ _ _ _ _) | ((with_reducible apply x_newL); exact Nat.le_of_ble_eq_true rfl; intro _ _ _ _ _) | with_reducible refine x_for ?_ | with_reducible refine x_iL ?_ | with_reducible refine x_iR1 ?_ | with_reducible refine x_iR2 ?_ | with_reducible refine x_iE ?_ | ((with_reducible apply x_kIL); (walk_at "sq")) | ((with_reducible apply x_kE); (walk_at "sq")) | with_reducible refine x_lc ?_ | with_reducible refine x_yes ?_ | ((with_reducible apply x_wp); exact rfl))
local macro_rules | `(tactic| walk_at "go") => `(tactic| (walk_at "go1"; repeat walk_at "go1"))
local macro_rules | `(tactic| walk_at "fr") => `(tactic| first | assumption | exact Kp.free (by assumption) _ (by walk_at "fr"))
local macro_rules | `(tactic| walk_at "lk") => `(tactic| first | exact lf_p _ _ | exact lf_d _ _ | exact lf_no _ _ (by decide +kernel) (by decide +kernel))
local macro_rules | `(tactic| walk_at "go1") => `(tactic| first | with_reducible refine x_rs ?_ | ((with_reducible apply x_niS); (walk_at "sq")) | ((with_reducible apply x_inS); (walk_at "sq")))
/-! ### deeds one behind another -/
inductive Runs : List Pc → List Dd → List Pc → List Dn → Prop
  | nil (ps : List Pc) : Runs ps [] ps []
  | snoc {ps qs rs : List Pc} {ds : List Dd} {es : List Dn} {d : Dd} {e : Dn} : Runs ps ds qs es → Step qs d rs e → Runs ps (ds ++ [d]) rs (es ++ [e])
theorem Runs.len {ps qs : List Pc} {ds : List Dd} {es : List Dn} (h : Runs ps ds qs es) : qs.length ≤ ps.length + ds.length ∧ es.length = ds.length := by
  induction h with
  | nil => exact ⟨Nat.le_refl _, rfl⟩
  | snoc h st ih =>
    have := st.len
    simp only [List.length_append, List.length_cons, List.length_nil]
    omega
theorem x_all {K : PySem.W.Frag} {c : Value} {i : Nat} {tb : WX → TS} {ts : WX → Addr → Value → Option Addr → TS} {tf tfs : TS} {Wout : WX} {N B Ct : L2.St → Hp → Prop} {R : VK} {σ : L2.St} {H : Hp}
    (h : Run (tb (wAll K c i ts (wFin tfs Wout))) (fun σ1 H1 => Run tf N R B Ct σ1 H1) (fun _ _ => False) (fun _ _ => False) (fun _ _ => False) σ H) : Run (tAllT K c i tb ts tf tfs Wout) N R B Ct σ H := h
theorem x_gfld {K : PySem.W.Frag} {to : TE} {f : Str} {v : V} {σ : L2.St} {H : Hp} {G : L2.St → Hp → Prop} (h : to σ H (kSet K f v (G σ))) : gFld K to f v σ H G := h
section
variable {P : Program} {w : World} {K : PySem.W.Frag} {mg : Str → Option Value} {base : Heap} {C : Addr}
abbrev s_Broken_init : Stmt := inClass (top 5) 0
theorem sc_Broken_init : FnScope ["self", "number"] ["self", "number"] (defScope s_Broken_init) := ⟨rfl, rfl, rfl, by decide +kernel, rfl, by decide +kernel, by decide +kernel⟩
theorem I_Broken {CB D : Addr} {mc : Value} (T : OexC K CB) (GW : mg "WeldError" = some (.ref D)) (CW : CIni K D mc) (hno : PySem.W.findIn K (.ref CB) "number" = some none) (gC : mg "Broken" = some (.ref CB)) (M : MetAt K CB "__init__" "Broken.__init__" s_Broken_init ["self", "number"])
    (tI : ∀ f : Addr, PySem.W.isFn K (.ref f) = true → PySem.W.typeIn K (.ref f) = some (.type "function")) : ExcH P w K mg base "Broken" CB "number" := by
  obtain ⟨f, fd, F, hf, hi, b⟩ := M.ex
  obtain ⟨oc, od, kV, doc, pm, an, cdv, ct, osl, rfl, lk, hcd⟩ := F.ex
  refine ⟨gC, T, f, _, _, hf, tI f hi, L2H.fn_ofH lk hcd sc_Broken_init (fun vs H Q E h => by obtain ⟨a, v, rfl, _⟩ := h; rfl) fun A outer s H vs Q E p hot hr h => ⟨_, (pss_cons (ps_expr (pe_clsinit rfl GW CW (pa_cons (pv 0) (pa_cons pe_str pa_nil)))) (pss_one (ps_ost (pv 0) (pv 1)))), ?_⟩, b⟩
  obtain ⟨a, v, rfl, ha, k⟩ := h
  refine ⟨_, rfl, a, CB, _, rfl, Nat.le_of_ble_eq_true rfl, T, ha, ?_⟩
  exact ⟨_, rfl, _, rfl, a, CB, rfl, T, hno, .inl ⟨ha, fun dx h1 h2 => k dx h1 h2⟩⟩
def spAll (C CB : Addr) : Sp := fun vs H Q E => ∃ (l pl dl q : Addr) (ps : List Pc) (ds : List Dn) (qs : List (Addr × Dd)), vs = [.ref l, .ref q] ∧ Lk C H l pl dl ps ds ∧ H q = some (.lst (qs.map fun x => V.ref x.1)) ∧ q ∉ [pl, dl] ∧ (∀ x ∈ qs, DdAt H x.1 x.2) ∧ ps.length ≤ 200 ∧ ds.length ≤ 40000 ∧ qs.length ≤ 200 ∧
  (∀ rs es H', Runs ps (qs.map (·.2)) rs es → Kp [pl, dl] H H' → Lk C H' l pl dl rs (ds ++ es) → Q .non H') ∧
  (∀ (j : Nat) d r ps1 es1 pl' dl' dd H', Runs ps ((qs.map (·.2)).take j) ps1 es1 → (qs.map (·.2))[j]? = some d → Refs ps1 d r → Kp [l, pl, dl] H H' → H pl' = none → H dl' = none → Lk C H' l pl' dl' ps ds → H dd = none → H' dd = some (.xd [("number", .int (j : Int))]) → E (.ref CB) (some dd) H')
abbrev s_Linker_all_of : Stmt := inClass (top 9) 10
theorem sc_Linker_all_of : FnScope ["self", "deeds", "pieces", "done", "number", "through", "at", "deed", "e"] ["self", "deeds"] (defScope s_Linker_all_of) := ⟨rfl, rfl, rfl, by decide +kernel, rfl, by decide +kernel, by decide +kernel⟩
theorem M_all {CM CT CN CB CW : Addr} (Z : Blt mg) (cl : Cls K C) (nP : NoAttr K C "pieces") (nD : NoAttr K C "done") (GW : mg "WeldError" = some (.ref CW)) (XH_Broken : ExcH P w K mg base "Broken" CB "number")
    (hxm : ∀ rf : Rf, PySem.W.exmOne K (.ref (rf.C CM CT CN)) (.ref CW) = some true ∧ PySem.W.subIn K (.ref (rf.C CM CT CN)) (.type "BaseException") = some true)
    (N_do : Met P w K mg base (L2N.CX P w) C "do" 5 (spDo C CM CT CN)) (M : MetAt K C "all_of" "Linker.all_of" s_Linker_all_of ["self", "deeds"]) : Met P w K mg base (L2.CX P w) C "all_of" 6 (spAll C CB) := by
  refine M.okX sc_Linker_all_of (fun vs H Q E h => by obtain ⟨l, pl, dl, q, ps, ds, qs, rfl, _⟩ := h; rfl) fun f cdv A outer s H vs Q E hr h => ⟨_, (pss_cons (ps_par (i := 2) (j := 3) (by rfl) sc_Linker_all_of.nd rfl rfl (by decide) rfl rfl (pa_cons (pe_callTy (listK (K := K)) (by rfl) Z.list (by decide +kernel) (pa_cons (fldK (K := K) (pv 0) rfl) pa_nil)) (pa_cons (pe_callTy (listK (K := K)) (by rfl) Z.list (by decide +kernel) (pa_cons (fldK (K := K) (pv 0) rfl) pa_nil)) pa_nil)) (by rfl)) (pss_cons (ps_set (i := 4) sc_Linker_all_of.nd rfl (Or.inl rfl) pe_int) (pss_cons (ps_set (i := 5) sc_Linker_all_of.nd rfl (Or.inl rfl) pe_non) (pss_one (ps_all (i := 8) rfl rfl rfl sc_Linker_all_of.nd rfl rfl ⟨rfl, by decide, Or.inl GW⟩ (takes_of rfl rfl rfl rfl) (fun W pn xe tk hpo => (pss_cons (ps_for hpo rfl (enumIt (K := K) (by rfl) Z.enumerate (pa_cons (pv 1) pa_nil)) (gtupK (K := K) (n := 2) rfl (pgs_cons (pg_name (i := 6) sc_Linker_all_of.nd rfl (Or.inl rfl)) (pgs_cons (pg_name (i := 7) sc_Linker_all_of.nd rfl (Or.inl rfl)) pgs_nil))) (pss_cons (ps_set (i := 4) sc_Linker_all_of.nd rfl (Or.inl rfl) (pv 6)) (pss_one (ps_expr (pe_metS N_do cl (hr.mono (by decide)) (fun σ => L2N.passAt tk σ) (pv 0) (pa_cons (pv 7) pa_nil)))))) (pss_one (ps_set (i := 5) sc_Linker_all_of.nd rfl (Or.inl rfl) pe_bl)))) (fun W a oe cls d pn xe hz hv tks hot => (pss_one (ps_fromX (i := 8) hz hv tks hot XH_Broken (hr.mono (by decide)) (pa_cons (pv 4) pa_nil) rfl rfl))) (pss_one (ps_if (pt_cmpR op_isNo (pv 5) pe_non (nomark _)) (pss_one (ps_asg (pe_tup (pa_cons (pv 2) (pa_cons (pv 3) pa_nil))) (gtupK (K := K) (n := 2) rfl (pgs_cons (pfldK (K := K) (pv 0)) (pgs_cons (pfldK (K := K) (pv 0)) pgs_nil))))) pss_nil)) (fun a pn hot2 => (pss_one (ps_if (pt_cmpR op_isNo (pv 5) pe_non (nomark _)) (pss_one (ps_asg (pe_tup (pa_cons (pv 2) (pa_cons (pv 3) pa_nil))) (gtup2K (K := K) (n := 2) hot2 (pgs_cons (pfldK (K := K) (pv 0)) (pgs_cons (pfldK (K := K) (pv 0)) pgs_nil))))) pss_nil)))))))), ?_⟩
  obtain ⟨l, pl, dl, q, ps, ds, qs, rfl, L, hq, nq, hdd, hz, hz2, hz3, kok, kbad⟩ := h
  refine x_body ?_
  obtain ⟨⟨dx, hi⟩, hp, hd, pok, dok, ne⟩ := id L
  walk_at "go"
  refine x_listL (by walk_at "hp") fun pl2 H1 k1 n1 e1 => ?_
  walk_at "go"
  refine x_listL (by walk_at "hp") fun dl2 H2 k2 n2 e2 => ?_
  have k02 : Kp [] H H2 := k1.trans k2
  have L2' := L.kp k02 List.not_mem_nil List.not_mem_nil List.not_mem_nil
  have e1' : H2 pl2 = some (.lst (ps.map fun c => V.ref c.p)) := k2.get e1 List.not_mem_nil
  have hq2 : H2 q = some (.lst (qs.map fun x => V.ref x.1)) := k02.get hq List.not_mem_nil
  have m1 : pl2 ∉ [pl, dl] := ni2 (ne_fresh n1 hp).symm (ne_fresh n1 hd).symm
  have m2 : dl2 ∉ [pl, dl] := ni2 (ne_fresh n2 (k1.get hp List.not_mem_nil)).symm (ne_fresh n2 (k1.get hd List.not_mem_nil)).symm
  have nlp : l ∉ [pl, dl] := ni2 (ne_kind hi hp (by intro z; cases z)) (ne_kind hi hd (by intro z; cases z))
  have m12 : pl2 ≠ dl2 := ne_fresh n2 e1
  have ml1 : l ≠ pl2 := ne_fresh n1 hi
  have ml2 : l ≠ dl2 := ne_fresh n2 (k1.get hi List.not_mem_nil)
  walk_at "go"
  refine x_all ?_
  show Run (tSeq _ _) _ _ _ _ _ _
  refine x_seq ?_
  walk_at "go"
  refine k_forE (fun i σ H' => ∃ v4 v6 v7 qs1 es1, σ = [some (.ref l), some (.ref q), some (.ref pl2), some (.ref dl2), some v4, some .non, v6, v7, none] ∧ Runs ps ((qs.map (·.2)).take i) qs1 es1 ∧ Kp [pl, dl] H2 H' ∧ Lk C H' l pl dl qs1 (ds ++ es1))
    ⟨.int 0, none, none, ps, [], rfl, by rw [List.take_zero]; exact .nil ps, Kp.refl _ _, by rw [List.append_nil]; exact L2'⟩ (fun i σ H' _ ⟨_, _, _, _, _, _, _, k, _⟩ => SqL.of (k.get hq2 nq)) ?_ ?_
  · rintro i x σ H3 T H4 hx ⟨v4, v6, v7, qs1, es1, rfl, hr1, k3, L3⟩ k4 nT eT
    obtain ⟨c, hc, rfl⟩ := Option.map_eq_some_iff.mp (List.getElem?_map .. ▸ hx)
    have hil : i < qs.length := (List.getElem?_eq_some_iff.mp hc).1
    have hdi : (qs.map (·.2))[i]? = some c.2 := by rw [List.getElem?_map, hc]; rfl
    have k24 : Kp [pl, dl] H2 H4 := k3.trans k4.nil
    have L4 := L3.kp k4 List.not_mem_nil List.not_mem_nil List.not_mem_nil
    have hd4 := (hdd c (List.mem_of_getElem? hc)).kp (k02.nil.trans k24)
    obtain ⟨⟨dx4, hi4⟩, _⟩ := id L4
    have hlen := hr1.len
    rw [List.length_take, List.length_map] at hlen
    walk_at "go"
    refine ⟨l, pl, dl, c.1, c.2, qs1, ds ++ es1, rfl, L4, hd4, by omega, by rw [List.length_append]; omega, fun rf hrf => ?_, fun qs2 e H5 st k5 L5 => ?_⟩
    · intro dd0 H5 k5 n5 e5
      refine ⟨(hxm rf).1, fun a na => ⟨(hxm rf).2, rfl, ?_⟩⟩
      walk_at "go"
      refine x_mk fun dd H6 k6 n6 e6 => ?_
      show Run (tIfS _ _ _) (fun σ2 H7 => E (.ref CB) (some dd) H7) (fun _ _ => False) (fun _ _ => False) (fun _ _ => False) _ H6
      refine x_if ?_
      walk_at "go"
      refine k_is rfl ?_
      have k46 : Kp [] H4 H6 := k5.trans k6
      have k26 : Kp [pl, dl] H2 H6 := k24.trans k46.nil
      walk_at "go"
      rename_i T2 H7 k7 n7 e7
      have hi7 : H7 l = some (.ins C dx (lf pl dl)) := k7.get (k26.get (k02.get hi List.not_mem_nil) nlp) List.not_mem_nil
      refine x_gfld (x_var rfl ?_)
      refine x_setF (gs := lf pl2 dl) hi7 cl nP (Nat.le_of_ble_eq_true rfl) rfl fun H8 k8 e8 => ?_
      walk_at "go"
      refine x_gfld (x_var rfl ?_)
      refine x_setF (gs := lf pl2 dl2) e8 cl nD (Nat.le_of_ble_eq_true rfl) rfl fun H9 k9 e9 => ?_
      walk_at "go"
      have k69 : Kp [l] H6 H9 := (k7.nil.trans k8).trans k9
      have k29 : Kp [l, pl, dl] H2 H9 := (k26.mono (by simp)).trans (k69.mono (by simp))
      have k09 : Kp [l, pl, dl] H H9 := k02.nil.trans k29
      have g1 : H9 pl2 = some (.lst (ps.map fun c => V.ref c.p)) := k69.get (k26.get e1' m1) (ni1 ml1.symm)
      have g2 : H9 dl2 = some (.lst (ds.map fun e => V.ref e.a)) := k69.get (k26.get e2 m2) (ni1 ml2.symm)
      have hdd9 : H9 dd = some (.xd [("number", .int (i : Int))]) := k69.get e6 (ni1 (ne_kind e6 (k26.get (k02.get hi List.not_mem_nil) nlp |> fun z => z) (by intro z; cases z)))
      refine kbad i c.2 rf qs1 es1 pl2 dl2 dd H9 hr1 hdi hrf k09 n1 (k1.free _ n2) ⟨⟨dx, e9⟩, g1, g2, fun c hc => (pok c hc).kp k09, fun e he => (dok e he).kp k09, m12⟩ ?_ hdd9
      exact (k02.nil.trans (k24.trans k5.nil)).free _ n6
    · refine ⟨_, _, _, qs2, es1 ++ [e], rfl, ?_, k24.trans k5, by rw [← List.append_assoc]; exact L5⟩
      rw [List.take_succ, hdi]
      exact hr1.snoc st
  · rintro σ H3 ⟨v4, v6, v7, qs1, es1, rfl, hr1, k3, L3⟩
    walk_at "go"
    refine k_no (fun z => nomatch z) ?_
    walk_at "go"
    rw [List.length_map, ← List.length_map (f := fun x : Addr × Dd => x.2), List.take_length] at hr1
    exact kok qs1 es1 H3 hr1 (k02.nil.trans k3) L3
end
end WM
set_option Elab.async false
set_option linter.all false
set_option maxRecDepth 100000
set_option maxHeartbeats 2000000
namespace WM
open PySem PySem.Spec PyProof.Rows L2
/-! ### runs of deeds, plainly -/
theorem Step.aft {ps qs : List Pc} {e : Dn} : ∀ {d : Dd}, Step ps d qs e → After ps d qs
  | .put _, h => h.2.2.1
  | .exch _, h => by
    obtain ⟨i, o, h1, h2, h3, _⟩ := h
    exact ⟨i, o, h1, h2, h3⟩
  | .take _, h => by
    obtain ⟨i, o, h1, h2, h3, _⟩ := h
    exact ⟨i, o, h1, h2, h3⟩
theorem Step.det {ps q1 q2 : List Pc} {e1 e2 : Dn} {d : Dd} (nd : (ps.map (·.nm)).Nodup) (h1 : Step ps d q1 e1) (h2 : Step ps d q2 e2) : q1 = q2 ∧ e1.k = e2.k := ⟨h2.after nd h1.aft, by rw [h1.kd, h2.kd]⟩
theorem step_of {ps qs : List Pc} (hz : ps.length < 30) : ∀ {d : Dd}, Fit ps d → After ps d qs → ∃ e, Step ps d qs e
  | .put c, f, a => ⟨⟨0, .put, ps.length, none⟩, hz, fun z => by
      obtain ⟨o, ho, e⟩ := List.mem_map.mp z
      exact f o ho e, a, rfl, rfl, rfl⟩
  | .exch c, _, a => by
    obtain ⟨i, o, h1, h2, h3⟩ := a
    exact ⟨⟨0, .exch, i, some o⟩, i, o, h1, h2, h3, rfl, rfl, rfl⟩
  | .take nm, _, a => by
    obtain ⟨i, o, h1, h2, h3⟩ := a
    exact ⟨⟨0, .take, i, some o⟩, i, o, h1, h2, h3, rfl, rfl, rfl⟩
inductive RH : List Pc → List Dd → List Pc → List Dn → List (List Pc) → Prop
  | nil (ps : List Pc) : RH ps [] ps [] []
  | snoc {ps qs rs : List Pc} {ds : List Dd} {es : List Dn} {is : List (List Pc)} {d : Dd} {e : Dn} : RH ps ds qs es is → Step qs d rs e → RH ps (ds ++ [d]) rs (es ++ [e]) (is ++ [qs])
theorem RH.of {ps qs : List Pc} {ds : List Dd} {es : List Dn} (h : Runs ps ds qs es) : ∃ is, RH ps ds qs es is := by
  induction h with
  | nil => exact ⟨[], .nil _⟩
  | snoc h st ih =>
    obtain ⟨is, r⟩ := ih
    exact ⟨_, r.snoc st⟩
theorem RH.runs {ps qs : List Pc} {ds : List Dd} {es : List Dn} {is : List (List Pc)} (h : RH ps ds qs es is) : Runs ps ds qs es := by
  induction h with
  | nil => exact .nil _
  | snoc h st ih => exact ih.snoc st
theorem RH.inv {ps q : List Pc} {ds : List Dd} {d : Dd} {es : List Dn} {is : List (List Pc)} (h : RH ps (ds ++ [d]) q es is) : ∃ q' e' i' f, es = e' ++ [f] ∧ is = i' ++ [q'] ∧ RH ps ds q' e' i' ∧ Step q' d q f := by
  generalize hx : ds ++ [d] = dd at h
  cases h with
  | nil => exact absurd hx (by simp)
  | snoc r st =>
    obtain ⟨h1, h2⟩ := List.append_inj' hx rfl
    cases h1
    cases h2
    exact ⟨_, _, _, _, rfl, rfl, r, st⟩
theorem RH.nd {ps qs : List Pc} {ds : List Dd} {es : List Dn} {is : List (List Pc)} (h : RH ps ds qs es is) (nd : (ps.map (·.nm)).Nodup) : (qs.map (·.nm)).Nodup := by
  induction h with
  | nil => exact nd
  | snoc h st ih => exact st.nd ih
theorem RH.uniq {ps q1 : List Pc} {ds : List Dd} {e1 : List Dn} {i1 : List (List Pc)} (nd : (ps.map (·.nm)).Nodup) (h : RH ps ds q1 e1 i1) : ∀ {q2 : List Pc} {e2 : List Dn} {i2 : List (List Pc)}, RH ps ds q2 e2 i2 → q1 = q2 ∧ i1 = i2 ∧ e1.map (·.k) = e2.map (·.k) := by
  induction h with
  | nil =>
    intro q2 e2 i2 h2
    generalize hx : ([] : List Dd) = dd at h2
    cases h2 with
    | nil => exact ⟨rfl, rfl, rfl⟩
    | snoc r st => exact absurd hx (by simp)
  | snoc h st ih =>
    intro q2 e2 i2 h2
    obtain ⟨q', e', i', f, rfl, rfl, r, st2⟩ := h2.inv
    obtain ⟨rfl, rfl, hk⟩ := ih r
    obtain ⟨h3, h4⟩ := st.det (h.nd nd) st2
    exact ⟨h3, rfl, by rw [List.map_append, List.map_append, hk, List.map_singleton, List.map_singleton, h4]⟩
theorem Runs.uniq {ps q1 q2 : List Pc} {ds : List Dd} {e1 e2 : List Dn} (nd : (ps.map (·.nm)).Nodup) (h : Runs ps ds q1 e1) (h2 : Runs ps ds q2 e2) : q1 = q2 ∧ e1.map (·.k) = e2.map (·.k) := by
  obtain ⟨i1, r1⟩ := RH.of h
  obtain ⟨i2, r2⟩ := RH.of h2
  obtain ⟨a, _, b⟩ := r1.uniq nd r2
  exact ⟨a, b⟩
theorem Runs.at {ps qs : List Pc} {ds : List Dd} {es : List Dn} (h : Runs ps ds qs es) : ∀ {j : Nat} {d : Dd}, ds[j]? = some d → ∃ q e1 r e, Runs ps (ds.take j) q e1 ∧ Step q d r e := by
  induction h with
  | nil => intro j d h; simp at h
  | @snoc qs rs ds es d e h st ih =>
    intro j d' hj
    by_cases hl : j < ds.length
    · rw [List.getElem?_append_left hl] at hj
      obtain ⟨q, e1, r, e2, h1, h2⟩ := ih hj
      exact ⟨q, e1, r, e2, by rw [List.take_append_of_le_length (by omega)]; exact h1, h2⟩
    · have hle : j < (ds ++ [d]).length := (List.getElem?_eq_some_iff.mp hj).1
      rw [List.length_append] at hle
      have hje : j = ds.length := by simp only [List.length_cons, List.length_nil] at hle; omega
      subst hje
      rw [List.getElem?_append_right (Nat.le_refl _), Nat.sub_self] at hj
      cases hj
      exact ⟨qs, es, rs, e, by rw [List.take_append_of_le_length (Nat.le_refl _), List.take_length]; exact h, st⟩
theorem Refs.no {ps qs : List Pc} {e : Dn} : ∀ {d : Dd} {r : Rf}, Refs ps d r → Step ps d qs e → False
  | .put _, .many, h, s => by
    have h1 : 30 ≤ ps.length := h
    have h2 : ps.length < 30 := s.1
    omega
  | .put _, .twin, h, s => s.2.1 h.2
  | .exch _, .piece, h, s => by
    obtain ⟨i, o, ho, e, _⟩ := s
    exact h o (List.mem_of_getElem? ho) e
  | .take _, .piece, h, s => by
    obtain ⟨i, o, ho, e, _⟩ := s
    exact h o (List.mem_of_getElem? ho) e
theorem Runs.noRef {ps qs : List Pc} {ds : List Dd} {es : List Dn} (nd : (ps.map (·.nm)).Nodup) (h : Runs ps ds qs es) {j : Nat} {d : Dd} {p1 : List Pc} {e1 : List Dn} {r : Rf} (h1 : Runs ps (ds.take j) p1 e1) (hj : ds[j]? = some d) (hr : Refs p1 d r) : False := by
  obtain ⟨q, e2, r2, e, h2, st⟩ := h.at hj
  obtain ⟨rfl, _⟩ := Runs.uniq nd h1 h2
  exact hr.no st
theorem Runs.append {ps qs : List Pc} {a : List Dd} {es : List Dn} (h : Runs ps a qs es) {rs : List Pc} {b : List Dd} {fs : List Dn} (h2 : Runs qs b rs fs) : Runs ps (a ++ b) rs (es ++ fs) := by
  induction h2 with
  | nil => rw [List.append_nil, List.append_nil]; exact h
  | snoc r st ih =>
    rw [← List.append_assoc, ← List.append_assoc]
    exact ih.snoc st
inductive Chain : List Pc → List Dn → List (List Pc) → Prop
  | nil : Chain [] [] []
  | snoc {ps qs : List Pc} {ds : List Dn} {hs : List (List Pc)} {e : Dn} : Chain qs ds hs → Undo ps e qs → Chain ps (ds ++ [e]) (hs ++ [qs])
theorem RH.chain {ps qs : List Pc} {dd : List Dd} {es : List Dn} {is : List (List Pc)} (h : RH ps dd qs es is) {ds : List Dn} {hs : List (List Pc)} (c : Chain ps ds hs) : Chain qs (ds ++ es) (hs ++ is) := by
  induction h with
  | nil => rw [List.append_nil, List.append_nil]; exact c
  | snoc r st ih =>
    rw [← List.append_assoc, ← List.append_assoc]
    exact ih.snoc st.undo
theorem Chain.len {ps : List Pc} {ds : List Dn} {hs : List (List Pc)} (c : Chain ps ds hs) : ds.length = hs.length := by
  induction c with
  | nil => rfl
  | snoc c u ih => simp only [List.length_append, ih, List.length_cons, List.length_nil]
theorem Chain.inv {ps : List Pc} {ds : List Dn} {hs : List (List Pc)} (c : Chain ps ds hs) : (ps = [] ∧ ds = [] ∧ hs = []) ∨ ∃ d1 e h1 qs, ds = d1 ++ [e] ∧ hs = h1 ++ [qs] ∧ Chain qs d1 h1 ∧ Undo ps e qs := by
  cases c with
  | nil => exact .inl ⟨rfl, rfl, rfl⟩
  | snoc c u => exact .inr ⟨_, _, _, _, rfl, rfl, c, u⟩
/-- the pieces have names of ns, none twice -/
structure Good (ns : List Str) (ps : List Pc) : Prop where
  nd : (ps.map (·.nm)).Nodup
  sub : ∀ c ∈ ps, c.nm ∈ ns
theorem nodup_le : ∀ (l ns : List Str), l.Nodup → (∀ x ∈ l, x ∈ ns) → l.length ≤ ns.length
  | [], _, _, _ => Nat.zero_le _
  | a :: l, ns, nd, h => by
    obtain ⟨h1, h2⟩ := List.nodup_cons.mp nd
    have ha := h a List.mem_cons_self
    have ih := nodup_le l (ns.erase a) h2 fun x hx => (List.mem_erase_of_ne (fun z : x = a => h1 (by rw [← z]; exact hx))).mpr (h x (List.mem_cons_of_mem _ hx))
    rw [List.length_erase_of_mem ha] at ih
    have : 0 < ns.length := List.length_pos_of_mem ha
    rw [List.length_cons]
    omega
theorem Good.le {ns : List Str} {ps : List Pc} (g : Good ns ps) : ps.length ≤ ns.length := by
  have := nodup_le _ ns g.nd fun x hx => by
    obtain ⟨c, hc, rfl⟩ := List.mem_map.mp hx
    exact g.sub c hc
  rw [List.length_map] at this
  exact this
theorem Good.nil {ns : List Str} : Good ns [] := ⟨List.nodup_nil, fun _ z => nomatch z⟩
theorem Step.sub {p : Str → Prop} {ps qs : List Pc} {e : Dn} (ok : ∀ c ∈ ps, p c.nm) : ∀ {d : Dd}, p d.nm → Step ps d qs e → ∀ c ∈ qs, p c.nm
  | .put c, hc, h => by
    obtain ⟨_, hn, rfl, _⟩ := h
    intro x hx
    rcases List.mem_append.mp hx with hx | hx
    · exact ok x hx
    · rw [List.mem_singleton.mp hx]
      exact hc
  | .exch c, hc, h => by
    obtain ⟨i, o, ho, eo, rfl, _⟩ := h
    intro x hx
    rcases List.mem_or_eq_of_mem_set hx with hx | hx
    · exact ok x hx
    · rw [hx]
      exact hc
  | .take c, hc, h => by
    obtain ⟨i, o, ho, eo, rfl, _⟩ := h
    intro x hx
    exact ok x (List.mem_of_mem_eraseIdx hx)
theorem Good.step {ns : List Str} {ps qs : List Pc} {d : Dd} {e : Dn} (g : Good ns ps) (hd : d.nm ∈ ns) (st : Step ps d qs e) : Good ns qs := ⟨st.nd g.nd, st.sub g.sub hd⟩
end WM
set_option Elab.async false
set_option linter.all false
set_option maxRecDepth 100000
set_option maxHeartbeats 2000000
namespace WM
open PySem PySem.Spec PyProof.Rows L2
local macro_rules | `(tactic| walk_at "ne") => `(tactic| first | assumption | exact Ne.symm (by assumption) | exact ne_fresh (by assumption) (by walk_at "hp") | exact (ne_fresh (by assumption) (by walk_at "hp")).symm | exact ne_kind (by walk_at "hp") (by walk_at "hp") (by intro z; cases z))
local macro_rules | `(tactic| walk_at "ni") => `(tactic| first | exact List.not_mem_nil | assumption | exact ni1 (by walk_at "ne") | exact ni2 (by walk_at "ne") (by walk_at "ne") | exact ni3 (by walk_at "ne") (by walk_at "ne") (by walk_at "ne"))
local macro_rules | `(tactic| walk_at "hp") => `(tactic| first | assumption | exact upd_same | (apply upd_getN; (assumption); (walk_at "hp")) | (apply Kp.tup; (assumption); (walk_at "hp")) | (apply Kp.get; (assumption); (walk_at "hp"); (walk_at "ni")))
local macro_rules | `(tactic| walk_at "sq") => `(tactic| first | assumption | exact SqL.of (by walk_at "hp") | (apply Kp.sqL; (assumption); (walk_at "sq"); (walk_at "ni")))
local macro_rules | `(tactic| walk_at "kp") => `(tactic| first | exact Kp.refl _ _ | assumption | exact Kp.nil (by assumption) | (refine' Kp.step (by assumption) ?_ (by first | exact fun _ z => z | exact fun _ z => nomatch z | simp); walk_at "kp"))
local macro_rules | `(tactic| walk_at "tp") => `(tactic| first | assumption | exact Tp.non | exact Tp.bl _ | exact Tp.int _ | exact Tp.str _ | (apply Tp.tup; (walk_at "hp"); (walk_at "tps")) | (apply Tp.kp; (assumption); (walk_at "tp")))
local macro_rules | `(tactic| walk_at "tps") => `(tactic| first | exact TpAll.nil | (refine TpAll.cons ?_ ?_; (walk_at "tp"); (walk_at "tps")))
local macro_rules | `(tactic| walk_at "lk") => `(tactic| first | assumption | rfl)
local macro_rules | `(tactic| walk_at "go1") => `(tactic| first | with_reducible refine x_seq ?_ | with_reducible refine x_asg ?_ | with_reducible refine x_drop ?_ | with_reducible refine x_ret ?_ | with_reducible refine x_if ?_ | with_reducible refine x_next ?_ | with_reducible refine x_par ?_ | with_reducible refine x_par3 ?_ | with_reducible refine x_two ?_ | with_reducible refine x_three ?_ | with_reducible refine x_sfld ?_ | with_reducible refine x_retN ?_ | with_reducible refine x_brk ?_ | with_reducible refine x_name ?_ | with_reducible refine x_gsub ?_ | with_reducible refine x_gcons ?_ | with_reducible refine x_gnil ?_ | ((with_reducible apply x_gtup); (walk_at "hp"); exact rfl) | ((with_reducible apply x_var); exact rfl) | with_reducible refine x_c ?_ | with_reducible refine x_op ?_ | with_reducible refine x_un ?_ | with_reducible refine x_nil ?_ | with_reducible refine x_cons ?_ | with_reducible refine x_tup ?_ | with_reducible refine x_lst ?_ | with_reducible refine x_fldE ?_ | ((with_reducible apply x_fld); (walk_at "hp"); assumption; assumption; (walk_at "lk")) | with_reducible refine x_cal ?_ | with_reducible refine x_metE ?_ | with_reducible refine x_calS ?_ | with_reducible refine x_metS ?_ | ((with_reducible apply x_met); (walk_at "hp"); (walk_at "lk")) | with_reducible refine x_newI ?_ | with_reducible refine x_cb ?_ | with_reducible refine x_bm ?_ | with_reducible refine x_bm0 ?_ | ((with_reducible apply x_bmL); (walk_at "hp")) | with_reducible refine x_sl ?_ | with_reducible refine x_nop ?_ | with_reducible refine x_part ?_ | with_reducible refine x_kP ?_ | with_reducible refine x_ife ?_ | with_reducible refine x_andV ?_ | with_reducible refine x_orV ?_ | with_reducible refine x_notV ?_ | with_reducible refine x_test ?_ | with_reducible refine x_tB ?_ | with_reducible refine x_kB ?_ | with_reducible refine x_and ?_ | with_reducible refine x_or ?_ | with_reducible refine x_not ?_ | with_reducible refine k_T ?_ | with_reducible refine k_F ?_ | with_reducible refine k_not ?_ | walk_at "go2")
local macro_rules | `(tactic| walk_at "go2") => `(tactic| first | ((with_reducible apply x_setF); (walk_at "hp"); assumption; assumption; exact Nat.le_of_ble_eq_true rfl; exact rfl; intro _ _ _) | ((with_reducible apply x_append); (walk_at "hp"); (first | omega | (simp; omega)); intro _ _ _) | ((with_reducible apply x_setL); (walk_at "hp"); exact rfl; intro _ _ _) | with_reducible refine x_addI ?_ | with_reducible refine x_cmp ?_ | with_reducible refine x_subI ?_ | with_reducible refine x_eqI ?_ | with_reducible refine x_eqS ?_ | with_reducible refine x_neI ?_ | with_reducible refine x_neS ?_ | with_reducible refine x_isNo ?_ | with_reducible refine x_notNo ?_ | ((with_reducible apply x_modI); (first | omega | decide)) | ((with_reducible apply x_divI); (first | omega | decide); (first | omega | decide)) | ((with_reducible apply x_mulI); (first | exact .inl ⟨by omega, by omega⟩ | exact .inr ⟨by decide, by decide⟩ | exact .inr ⟨by omega, by omega⟩)) | ((with_reducible apply x_powI); exact ⟨by decide, by decide, by decide⟩) | ((with_reducible apply x_ixT); (walk_at "hp"); exact rfl) | ((with_reducible apply x_ixL); (walk_at "sq"); exact rfl) | ((with_reducible apply x_lenL); (walk_at "sq")) | ((with_reducible apply x_newT); exact Nat.le_of_ble_eq_true rfl; intro _ _ _ _ _) | ((with_reducible apply x_newL); exact Nat.le_of_ble_eq_true rfl; intro _ _ _ _ _) | with_reducible refine x_for ?_ | with_reducible refine x_iL ?_ | with_reducible refine x_iR1 ?_ | with_reducible refine x_iR2 ?_ | with_reducible refine x_iE ?_ | ((with_reducible apply x_kIL); (walk_at "sq")) | ((with_reducible apply x_kE); (walk_at "sq")) | with_reducible refine x_lc ?_ | with_reducible refine x_yes ?_ | ((with_reducible apply x_wp); exact rfl))
local macro_rules | `(tactic| walk_at "go") => `(tactic| (walk_at "go1"; repeat walk_at "go1"))
local macro_rules | `(tactic| walk_at "fr") => `(tactic| first | assumption | exact Kp.free (by assumption) _ (by walk_at "fr"))
local macro_rules | `(tactic| walk_at "lk") => `(tactic| first | exact lf_p _ _ | exact lf_d _ _ | exact lf_no _ _ (by decide +kernel) (by decide +kernel))
local macro_rules | `(tactic| walk_at "go1") => `(tactic| first | with_reducible refine x_rs ?_ | ((with_reducible apply x_niS); (walk_at "sq")) | ((with_reducible apply x_inS); (walk_at "sq")))
local macro_rules | `(tactic| walk_at "go1") => `(tactic| first | with_reducible refine x_xvE ?_ | ((with_reducible apply x_isV); (walk_at "hp"); (walk_at "hp"); assumption; (first | exact ClsV.own _ | exact ClsV.ty _); assumption) | ((with_reducible apply x_xv); (walk_at "hp"); (walk_at "hp"); assumption; assumption) | ((with_reducible apply x_addL); (walk_at "hp"); (walk_at "hp"); exact Nat.le_of_ble_eq_true rfl; intro _ _ _ _ _))
theorem x_tryM {K : PySem.W.Frag} {C : Addr} {m : Str} {sp : Sp} {c : Value} {i : Nat} {ts : Addr → Value → Option Addr → TS} {Wout : WX} {te : TE} {ta : TA} {N B Ct : L2.St → Hp → Prop} {R : VK} {σ : L2.St} {H : Hp}
    (h : te σ H (kMet C m sp (WE (wAsV K c i ts Wout { nx := N, rt := R, bk := B, ct := Ct }) σ) ta σ fun _ H2 => N σ H2)) : Run (fun D σ H => tDrop (tMetS C m sp (WE (wAsV K c i ts Wout D)) te ta) D σ H) N R B Ct σ H := h
theorem x_endsM {t : TS} {D : Ends} {σ : L2.St} {H : Hp} (h : Run t D.nx D.rt D.bk D.ct σ H) : t D σ H := h
theorem x_endM {a : Addr} {cls : Value} {d : Option Addr} {i : Nat} {N B Ct : L2.St → Hp → Prop} {R : VK} {σ : L2.St} {H : Hp} (h : ∀ H', Kp [] H H' → H' a = some (exv a cls d) → N (σ.set i none) H') :
    (endV a cls d i { nx := N, rt := R, bk := B, ct := Ct }).nx σ H := fun hn => h _ ((Kp.refl _ _).updNew hn) upd_same
/-- a deed as data -/
def Dd.dat (d : Dd) : PyData := .tuple [.str d.w, match d with | .put c => c.d | .exch c => c.d | .take nm => .str nm]
theorem Dd.wok : ∀ d : Dd, PyData.strOk d.w = true
  | .put _ => show PyData.strOk ("put" : Str) = true by decide +kernel
  | .exch _ => show PyData.strOk ("exchange" : Str) = true by decide +kernel
  | .take _ => show PyData.strOk ("take" : Str) = true by decide +kernel
theorem DdAt.tp {H : Hp} {a : Addr} {d : Dd} (h : DdAt H a d) : Tp H (.ref a) d.dat := by
  refine .tup h.tup (.cons (.str _) (.cons ?_ .nil))
  cases d with
  | put c => exact (h.pc c List.mem_cons_self).dat
  | exch c => exact (h.pc c List.mem_cons_self).dat
  | take nm => exact .str _
theorem DdAt.shp {H : Hp} {a : Addr} {d : Dd} (h : DdAt H a d) (ok : PyData.strOk d.nm = true) : Shp 21 d.dat := by
  refine Shp.tuple fun x hx => ?_
  simp only [List.mem_cons, List.not_mem_nil, or_false] at hx
  rcases hx with rfl | rfl
  · exact Shp.str (Dd.wok _)
  · cases d with
    | put c => exact (h.pc c List.mem_cons_self).shp
    | exch c => exact (h.pc c List.mem_cons_self).shp
    | take nm => exact Shp.str ok
section
variable {P : Program} {w : World} {K : PySem.W.Frag} {mg : Str → Option Value} {base : Heap} {C : Addr}
def spBreaks (C : Addr) : Sp := fun vs H Q _ => ∃ (l pl dl q : Addr) (n : Int) (ps : List Pc) (ds : List Dn) (qs : List (Addr × Dd)), vs = [.ref l, .ref q, .int n] ∧ Lk C H l pl dl ps ds ∧ H q = some (.lst (qs.map fun x => V.ref x.1)) ∧ q ∉ [pl, dl] ∧ (∀ x ∈ qs, DdAt H x.1 x.2) ∧ ps.length ≤ 200 ∧ ds.length ≤ 40000 ∧ qs.length ≤ 200 ∧
  (∀ rs es, ¬ Runs ps (qs.map (·.2)) rs es) ∧ (∀ (j : Nat) d r ps1 es1, Runs ps ((qs.map (·.2)).take j) ps1 es1 → (qs.map (·.2))[j]? = some d → Refs ps1 d r → (j : Int) = n) ∧
  ∀ pl' dl' H', Kp [l, pl, dl] H H' → H pl' = none → H dl' = none → Lk C H' l pl' dl' ps ds → Q (.bl true) H'
abbrev s_e_breaks : Stmt := top 20
theorem sc_e_breaks : FnScope ["linker", "deeds", "number", "caught", "e"] ["linker", "deeds", "number"] (defScope s_e_breaks) := ⟨rfl, rfl, rfl, by decide +kernel, rfl, by decide +kernel, by decide +kernel⟩
theorem D_breaks {CB : Addr} (cl : Cls K C) (GB : mg "Broken" = some (.ref CB)) (exm : PySem.W.exmOne K (.ref CB) (.ref CB) = some true) (T : ExcK K CB) (hno : PySem.W.findIn K (.ref CB) "number" = some none) (M_all : Met P w K mg base (L2.CX P w) C "all_of" 6 (spAll C CB))
    (D : DefAt K mg "_law_e_breaks" s_e_breaks ["linker", "deeds", "number"]) : Def P w K mg base CX0 "_law_e_breaks" 7 (spBreaks C) := by
  refine D.ok sc_e_breaks (fun vs H Q E h => by obtain ⟨l, pl, dl, q, n, ps, ds, qs, rfl, _⟩ := h; rfl) fun f cdv A outer s H vs Q E hr h => ⟨_, (pss_cons (ps_set (i := 3) sc_e_breaks.nd rfl (Or.inl rfl) pe_non) (pss_cons (ps_try_asV (i := 4) rfl rfl rfl sc_e_breaks.nd rfl rfl ⟨rfl, by decide, Or.inl GB⟩ takes0 (fun W pn xe tk hpo => (pss_one (ps_expr (pe_metS M_all cl (hr.mono (by decide)) (fun σ => passAt tk σ) (pv 0) (pa_cons (pv 1) pa_nil))))) (fun a oe cls d pn _ _ => (pss_one (ps_set (i := 3) sc_e_breaks.nd rfl (Or.inl rfl) (pv 4))))) (pss_one (ps_ret (pe_and (pe_cmpR op_notNo (pv 3) pe_non (nomark _)) (pe_one (pe_cmpR (eqK (K := K) hr.units) (xvK (K := K) (pv 3)) (pv 2) (nomark _)))))))), ?_⟩
  obtain ⟨l, pl, dl, q, n, ps, ds, qs, rfl, L, hq, nq, hdd, z1, z2, z3, kno, kn, k⟩ := h
  refine x_body ?_
  obtain ⟨⟨dx, hi⟩, _⟩ := id L
  walk_at "go"
  refine x_tryM ?_
  walk_at "go"
  refine ⟨l, pl, dl, q, ps, ds, qs, rfl, L, hq, nq, hdd, z1, z2, z3, fun rs es _ hr _ _ => (kno rs es hr).elim, fun j d r ps1 es1 pl' dl' dd H1 hr hj hrf k1 n1 n2 L1 ndd edd => ?_⟩
  refine ⟨true, exm, fun _ ex hex => x_endsM ?_, fun z => nomatch z⟩
  walk_at "go"
  refine x_endM fun H2 k2 e2 => ?_
  have e3 : H2 dd = some (.xd [("number", .int (j : Int))]) := k2.get edd List.not_mem_nil
  walk_at "go"
  refine k_no (fun z => nomatch z) ?_
  walk_at "go"
  rw [decide_eq_true (kn j d r ps1 es1 hr hj hrf)]
  exact k pl' dl' H2 (k1.trans k2.nil) n1 n2 (L1.kp k2 List.not_mem_nil List.not_mem_nil List.not_mem_nil)
def spParts (K : PySem.W.Frag) (C : Addr) : Sp := fun vs H Q _ => ∃ (pn l pl dl q : Addr) (ps rs : List Pc) (ds es0 : List Dn) (qs : List (Addr × Dd)), vs = [.ref pn, .ref l, .ref q] ∧ Pen K H pn ∧ Lk C H l pl dl ps ds ∧ H q = some (.lst (qs.map fun x => V.ref x.1)) ∧ q ∉ [pl, dl] ∧ (∀ x ∈ qs, DdAt H x.1 x.2 ∧ PyData.strOk x.2.nm = true) ∧
  ps.length ≤ 100 ∧ ds.length ≤ 30000 ∧ qs.length ≤ 100 ∧ (ps.map (·.nm)).Nodup ∧ Runs ps (qs.map (·.2)) rs es0 ∧ ∀ es H', Runs ps (qs.map (·.2)) rs es → Kp [pn, pl, dl] H H' → Pen K H' pn → Lk C H' l pl dl rs (ds ++ es) → Q .non H'
abbrev s_e_in_parts : Stmt := top 21
theorem sc_e_in_parts : FnScope ["pen", "linker", "deeds", "rest", "many"] ["pen", "linker", "deeds"] (defScope s_e_in_parts) := ⟨rfl, rfl, rfl, by decide +kernel, rfl, by decide +kernel, by decide +kernel⟩
theorem D_parts {CB : Addr} (Z : Blt mg) (cl : Cls K C) (D_next : Def P w K mg base CX0 "_law_next" 2 (spNext K)) (M_all : Met P w K mg base (L2.CX P w) C "all_of" 6 (spAll C CB))
    (D : DefAt K mg "_law_e_in_parts" s_e_in_parts ["pen", "linker", "deeds"]) : Def P w K mg base CX0 "_law_e_in_parts" 7 (spParts K C) := by
  refine D.ok sc_e_in_parts (fun vs H Q E h => by obtain ⟨pn, l, pl, dl, q, ps, rs, ds, es0, qs, rfl, _⟩ := h; rfl) fun f cdv A outer s H vs Q E hr h => ⟨_, (pss_cons (ps_set (i := 3) sc_e_in_parts.nd rfl (Or.inl rfl) (pe_callTy (listK (K := K)) (by rfl) Z.list (by decide +kernel) (pa_cons (pv 2) pa_nil))) (pss_one (ps_while PassesOwn.never (pt_cmpR (neK (K := K) hr.units) (pv 3) (pe_lst pa_nil) (nomark _)) (pss_cons (ps_set (i := 4) sc_e_in_parts.nd rfl (Or.inl rfl) (pe_op op_addA pe_int (pe_def D_next (hr.mono (by decide)) pass0 (pa_cons (pv 0) (pa_cons (pe_callB (lenK (K := K)) (by rfl) Z.len PySem.boot_len (pa_cons (pv 3) pa_nil)) pa_nil))))) (pss_cons (ps_expr (pe_met M_all cl (hr.mono (by decide)) passL (pv 1) (pa_cons (pe_slice (slK (K := K)) (pv 3) po_none (po_some (pv 4))) pa_nil))) (pss_one (ps_set (i := 3) sc_e_in_parts.nd rfl (Or.inl rfl) (pe_slice (slK (K := K)) (pv 3) (po_some (pv 4)) po_none)))))))), ?_⟩
  obtain ⟨pn, l, pl, dl, q, ps, rs, ds, es0, qs, rfl, hp, L, hq, nq, hdd, z1, z2, z3, nd, hR, k⟩ := h
  refine x_body ?_
  obtain ⟨⟨dx, hi⟩, hpl, hdl, _⟩ := id L
  walk_at "go"
  refine x_listL hq fun R0 H1 k1 n1 e1 => ?_
  walk_at "go"
  refine x_while ⟨fun m σ H' => ∃ (a : Nat) (R : Addr) (v4 : Option V) (psa : List Pc) (esa : List Dn), a + m = qs.length ∧ σ = [some (.ref pn), some (.ref l), some (.ref q), some (.ref R), v4] ∧ H' R = some (.lst ((qs.drop a).map fun x => V.ref x.1)) ∧ R ∉ [pl, dl] ∧ Runs ps ((qs.map (·.2)).take a) psa esa ∧ Kp [pn, pl, dl] H H' ∧ Pen K H' pn ∧ Lk C H' l pl dl psa (ds ++ esa),
    ⟨qs.length, 0, R0, none, ps, [], Nat.zero_add _, rfl, e1, ni2 (ne_fresh n1 hpl).symm (ne_fresh n1 hdl).symm, .nil ps, k1.nil, hp.kp0 k1, by rw [List.append_nil]; exact L.kp k1 List.not_mem_nil List.not_mem_nil List.not_mem_nil⟩, ?_⟩
  rintro m σ H2 ⟨a, R, v4, psa, esa, ham, rfl, eR, nR, hr, k2, hp2, L2⟩
  have tps : ∀ x ∈ qs.drop a, Tp H2 (.ref x.1) x.2.dat := fun x hx => ((hdd x (List.mem_of_mem_drop hx)).1.kp k2).tp
  have shs : Shp 60 (.list ((qs.drop a).map fun x => x.2.dat)) := (shp_list (n := 21) (g := fun x : Addr × Dd => x.2.dat) fun x hx => (hdd x (List.mem_of_mem_drop hx)).1.shp (hdd x (List.mem_of_mem_drop hx)).2).mono (by decide)
  have hdl2 : ((qs.drop a).map fun x : Addr × Dd => V.ref x.1).length = m := by rw [List.length_map, List.length_drop]; omega
  walk_at "go"
  rename_i p H3 k3 n3 e3
  refine x_neD (dp_list (f := fun x : Addr × Dd => V.ref x.1) (g := fun x : Addr × Dd => x.2.dat) (k3.get eR List.not_mem_nil) fun x hx => (tps x hx).kp k3) (.lst (SqL.of e3) .nil) shs ((Shp.list (n := 1) (ds := []) fun _ z => nomatch z).mono (by decide)) ?_
  have hp3 := hp2.kp0 k3
  have L3 := L2.kp k3 List.not_mem_nil List.not_mem_nil List.not_mem_nil
  have eR3 := k3.get eR List.not_mem_nil
  have k23 : Kp [pn, pl, dl] H H3 := k2.trans k3.nil
  obtain ⟨⟨dx3, hi3⟩, hpl3, hdl3, _⟩ := id L3
  have hps := hr.len
  rw [List.length_take, List.length_map] at hps
  cases m with
  | zero =>
    have hal : a = qs.length := by omega
    have hd0 : qs.drop a = [] := List.drop_eq_nil_of_le (by omega)
    refine x_kB (k_not (k_bT (by rw [hd0]; rfl) ?_))
    rw [hal, ← List.length_map (f := fun x : Addr × Dd => x.2), List.take_length] at hr
    obtain ⟨rfl, _⟩ := Runs.uniq nd hr hR
    exact k esa H3 hr k23 hp3 L3
  | succ m =>
    have hne : PyData.eqv (.list ((qs.drop a).map fun x => x.2.dat)) (.list []) = false := by
      cases q : qs.drop a with
      | nil =>
        have := congrArg List.length q
        rw [List.length_drop, List.length_nil] at this
        omega
      | cons y r => simp only [List.map_cons, PyData.eqv, PyData.eqvAll]
    refine x_kB (k_not (k_bF hne ?_))
    refine ⟨_, fun σ' H' z => z, ?_⟩
    walk_at "go"
    refine ⟨pn, _, rfl, hp3, by omega, by omega, fun z H4 z0 z1 k4 hp4 => ?_⟩
    obtain ⟨y, rfl⟩ := Int.eq_ofNat_of_zero_le z0
    have hy : y < m + 1 := by omega
    have e1y : (1 : Int) + (y : Int) = ((1 + y : Nat) : Int) := by omega
    have npl : pl ≠ pn := hp3.neP hpl3
    have ndl : dl ≠ pn := hp3.neP (f := fun x : Dn => x.a) hdl3
    have nl : l ∉ [pn] := ni1 (by
      obtain ⟨sc, zs, u, c, e', _⟩ := hp3
      exact ne_kind hi3 e' (by intro z; cases z))
    have nRp : R ≠ pn := hp3.neP (f := fun x : Addr × Dd => x.1) eR3
    have L4 := L3.kp k4 nl (ni1 npl) (ni1 ndl)
    have eR4 := k4.get eR3 (ni1 nRp)
    obtain ⟨⟨dx4, hi4⟩, hpl4, hdl4, _⟩ := id L4
    have k24 : Kp [pn, pl, dl] H H4 := k23.trans (k4.mono (by simp))
    walk_at "go"
    refine x_slL eR4 fun S H5 k5 n5 e5 => ?_
    rw [e1y, cutV_to (by omega), ← List.map_take] at e5
    have L5 := L4.kp k5 List.not_mem_nil List.not_mem_nil List.not_mem_nil
    have k25 : Kp [pn, pl, dl] H H5 := k24.trans k5.nil
    walk_at "go"
    refine ⟨l, pl, dl, S, psa, ds ++ esa, (qs.drop a).take (1 + y), rfl, L5, e5, ni2 (ne_fresh n5 hpl4).symm (ne_fresh n5 hdl4).symm, fun x hx => (hdd x (List.mem_of_mem_drop (List.mem_of_mem_take hx))).1.kp k25, by omega, by rw [List.length_append]; omega, by rw [List.length_take, List.length_drop]; omega,
      fun rs2 es2 H6 hr2 k6 L6 => ?_, fun j d r ps1 es1 _ _ _ _ hr2 hj hrf _ _ _ _ _ _ => ?_⟩
    · have eR6 : H6 R = some (.lst ((qs.drop a).map fun x => V.ref x.1)) := k6.get (k5.get eR4 List.not_mem_nil) nR
      have hp6 : Pen K H6 pn := (hp4.kp0 k5).kp k6 (ni2 npl.symm ndl.symm) fun b hb => by
        rcases List.mem_cons.mp hb with rfl | hb
        · exact ⟨_, L5.pcs⟩
        · rw [List.mem_singleton.mp hb]
          exact ⟨_, L5.dns⟩
      walk_at "go"
      refine x_slL eR6 fun R2 H7 k7 n7 e7 => ?_
      rw [e1y, cutV_from (by omega), ← List.map_drop, List.drop_drop] at e7
      walk_at "go"
      have hseg : (qs.map (·.2)).take (a + (1 + y)) = (qs.map (·.2)).take a ++ ((qs.drop a).take (1 + y)).map (·.2) := by
        rw [List.take_add, List.map_take, List.map_drop]
      exact ⟨m - y, by omega, a + (1 + y), R2, _, rs2, esa ++ es2, by omega, rfl, e7, ni2 (ne_fresh n7 L6.pcs).symm (ne_fresh n7 L6.dns).symm, by rw [hseg]; exact hr.append hr2, (k25.trans (k6.mono (by simp))).trans k7.nil, hp6.kp0 k7, by rw [← List.append_assoc]; exact L6.kp k7 List.not_mem_nil List.not_mem_nil List.not_mem_nil⟩
    · have hjl : j < ((qs.drop a).take (1 + y)).length := by
        have := (List.getElem?_eq_some_iff.mp hj).1
        rw [List.length_map] at this
        exact this
      rw [List.length_take, List.length_drop] at hjl
      have hseg : (qs.map (·.2)).take (a + j) = (qs.map (·.2)).take a ++ (((qs.drop a).take (1 + y)).map (·.2)).take j := by
        rw [List.take_add, List.map_take, List.map_drop, List.take_take, Nat.min_eq_left (by omega)]
      have hat : (qs.map (·.2))[a + j]? = some d := by
        rw [← hj, List.map_take, List.map_drop, List.getElem?_take_of_lt (by omega), List.getElem?_drop]
      exact hR.noRef nd (by rw [hseg]; exact hr.append hr2) hat hrf
end
end WM
set_option Elab.async false
set_option linter.all false
set_option maxRecDepth 100000
set_option maxHeartbeats 2000000
namespace WM
open PySem PySem.Spec PyProof.Rows L2
/-! ### two Linkers, the rows, the past -/
structure Wd (C : Addr) (H : Hp) (l pl dl m ql el pa r : Addr) (p1 p2 pr : List Pc) (ds es : List Dn) (hs : List (Addr × List Pc)) : Prop where
  L : Lk C H l pl dl p1 ds
  M : Lk C H m ql el p2 es
  R : Rows H r pr
  past : H pa = some (.lst (hs.map fun x => V.ref x.1))
  hr : ∀ x ∈ hs, Rows H x.1 x.2
  s1 : pl ∉ [ql, el, pa]
  s2 : dl ∉ [ql, el, pa]
  s3 : ql ≠ pa
  s4 : el ≠ pa
  sr : ∀ x ∈ r :: hs.map (·.1), x ∉ [pl, dl, ql, el, pa]
  lm : l ≠ m
def alls (l pl dl m ql el pa r : Addr) (hs : List (Addr × List Pc)) : List Addr := l :: m :: pl :: dl :: ql :: el :: pa :: r :: hs.map (·.1)
section
variable {K : PySem.W.Frag} {C l pl dl m ql el pa r : Addr} {p1 p2 pr : List Pc} {ds es : List Dn} {hs : List (Addr × List Pc)} {H H' : Hp} {fp : List Addr}
theorem Wd.kp (k : Kp fp H H') (h : Wd C H l pl dl m ql el pa r p1 p2 pr ds es hs) (n : ∀ x ∈ alls l pl dl m ql el pa r hs, x ∉ fp) : Wd C H' l pl dl m ql el pa r p1 p2 pr ds es hs := by
  have n' : ∀ x, x = l ∨ x = m ∨ x = pl ∨ x = dl ∨ x = ql ∨ x = el ∨ x = pa ∨ x = r ∨ x ∈ hs.map (·.1) → x ∉ fp := fun x hx => n x (by unfold alls; simpa only [List.mem_cons] using hx)
  refine ⟨h.L.kp k (n' _ (by simp)) (n' _ (by simp)) (n' _ (by simp)), h.M.kp k (n' _ (by simp)) (n' _ (by simp)) (n' _ (by simp)), h.R.kp k (n' _ (by simp)), k.get h.past (n' _ (by simp)), fun x hx => (h.hr x hx).kp k (n' _ ?_), h.s1, h.s2, h.s3, h.s4, h.sr, h.lm⟩
  have : x.1 ∈ hs.map (·.1) := List.mem_map.mpr ⟨x, hx, rfl⟩
  simp [this]
theorem Wd.kp0 (k : Kp [] H H') (h : Wd C H l pl dl m ql el pa r p1 p2 pr ds es hs) : Wd C H' l pl dl m ql el pa r p1 p2 pr ds es hs := h.kp k fun _ _ => List.not_mem_nil
theorem Pen.neI {pn a D dx : Addr} {fs : List (Str × V)} (hp : Pen K H pn) (h : H a = some (.ins D dx fs)) : a ≠ pn := by
  obtain ⟨sc, zs, u, c, e', _⟩ := hp
  exact ne_kind h e' (by intro z; cases z)
theorem Wd.kpn {pn : Addr} (hp : Pen K H pn) (k : Kp [pn] H H') (h : Wd C H l pl dl m ql el pa r p1 p2 pr ds es hs) : Wd C H' l pl dl m ql el pa r p1 p2 pr ds es hs := by
  refine h.kp k fun x hx => ni1 ?_
  obtain ⟨⟨dx, i1⟩, a1, a2, _⟩ := h.L
  obtain ⟨⟨dy, i2⟩, b1, b2, _⟩ := h.M
  unfold alls at hx
  simp only [List.mem_cons, List.mem_map] at hx
  rcases hx with rfl | rfl | rfl | rfl | rfl | rfl | rfl | rfl | ⟨y, hy, rfl⟩
  · exact hp.neI i1
  · exact hp.neI i2
  · exact hp.neP a1
  · exact hp.neP (f := fun x : Dn => x.a) a2
  · exact hp.neP b1
  · exact hp.neP (f := fun x : Dn => x.a) b2
  · exact hp.neP (f := fun x : Addr × List Pc => x.1) h.past
  · exact hp.neP h.R.lst
  · exact hp.neP (h.hr y hy).lst
/-- a new list is none of them -/
theorem Wd.new {q : Addr} (h : Wd C H l pl dl m ql el pa r p1 p2 pr ds es hs) (n : H q = none) : ∀ x ∈ alls l pl dl m ql el pa r hs, x ≠ q := fun x hx => by
  obtain ⟨⟨dx, i1⟩, a1, a2, _⟩ := h.L
  obtain ⟨⟨dy, i2⟩, b1, b2, _⟩ := h.M
  unfold alls at hx
  simp only [List.mem_cons, List.mem_map] at hx
  rcases hx with rfl | rfl | rfl | rfl | rfl | rfl | rfl | rfl | ⟨y, hy, rfl⟩
  · exact ne_fresh n i1
  · exact ne_fresh n i2
  · exact ne_fresh n a1
  · exact ne_fresh n a2
  · exact ne_fresh n b1
  · exact ne_fresh n b2
  · exact ne_fresh n h.past
  · exact ne_fresh n h.R.lst
  · exact ne_fresh n (h.hr y hy).lst
theorem ni5 {x a b c d e : Addr} (h1 : x ≠ a) (h2 : x ≠ b) (h3 : x ≠ c) (h4 : x ≠ d) (h5 : x ≠ e) : x ∉ [a, b, c, d, e] := fun z => by
  simp only [List.mem_cons, List.not_mem_nil, or_false] at z
  rcases z with z | z | z | z | z
  · exact h1 z
  · exact h2 z
  · exact h3 z
  · exact h4 z
  · exact h5 z
theorem mem5 {x a b c d e : Addr} (h : x ∉ [a, b, c, d, e]) : x ≠ a ∧ x ≠ b ∧ x ≠ c ∧ x ≠ d ∧ x ≠ e := by
  simp only [List.mem_cons, List.not_mem_nil, or_false, not_or] at h
  exact h
theorem mem3 {x a b c : Addr} (h : x ∉ [a, b, c]) : x ≠ a ∧ x ≠ b ∧ x ≠ c := by
  simp only [List.mem_cons, List.not_mem_nil, or_false, not_or] at h
  exact h
/-- the past grows by the rows -/
theorem Wd.push (h : Wd C H l pl dl m ql el pa r p1 p2 pr ds es hs) (k : Kp [pa] H H') (e : H' pa = some (.lst ((hs.map fun x => V.ref x.1) ++ [V.ref r]))) : Wd C H' l pl dl m ql el pa r p1 p2 pr ds es (hs ++ [(r, pr)]) := by
  obtain ⟨⟨dx, i1⟩, a1, a2, _⟩ := id h.L
  obtain ⟨⟨dy, i2⟩, b1, b2, _⟩ := id h.M
  have l1 : l ≠ pa := ne_kind i1 h.past (by intro z; cases z)
  have l2 : m ≠ pa := ne_kind i2 h.past (by intro z; cases z)
  have q1 := (mem3 h.s1).2.2
  have q2 := (mem3 h.s2).2.2
  have qr := fun x hx => (mem5 (h.sr x hx)).2.2.2.2
  refine ⟨h.L.kp k (ni1 l1) (ni1 q1) (ni1 q2), h.M.kp k (ni1 l2) (ni1 h.s3) (ni1 h.s4), h.R.kp k (ni1 (qr r List.mem_cons_self)), by rw [e, List.map_append]; rfl, fun x hx => ?_, h.s1, h.s2, h.s3, h.s4, fun x hx => ?_, h.lm⟩
  · rcases List.mem_append.mp hx with hx | hx
    · exact (h.hr x hx).kp k (ni1 (qr _ (List.mem_cons_of_mem _ (List.mem_map.mpr ⟨x, hx, rfl⟩))))
    · rw [List.mem_singleton.mp hx]
      exact h.R.kp k (ni1 (qr r List.mem_cons_self))
  · rcases List.mem_cons.mp hx with rfl | hx
    · exact h.sr _ List.mem_cons_self
    · rw [List.map_append] at hx
      rcases List.mem_append.mp hx with hx | hx
      · exact h.sr _ (List.mem_cons_of_mem _ hx)
      · rw [List.mem_singleton.mp hx]
        exact h.sr _ List.mem_cons_self
/-- new rows -/
theorem Wd.rows {r' : Addr} {pr' : List Pc} (h : Wd C H l pl dl m ql el pa r p1 p2 pr ds es hs) (k : Kp [] H H') (n : H r' = none) (R : Rows H' r' pr') : Wd C H' l pl dl m ql el pa r' p1 p2 pr' ds es hs := by
  have h' := h.kp0 k
  obtain ⟨_, a1, a2, _⟩ := id h.L
  obtain ⟨_, b1, b2, _⟩ := id h.M
  refine ⟨h'.L, h'.M, R, h'.past, h'.hr, h.s1, h.s2, h.s3, h.s4, fun x hx => ?_, h.lm⟩
  rcases List.mem_cons.mp hx with rfl | hx
  · exact ni5 (ne_fresh n a1).symm (ne_fresh n a2).symm (ne_fresh n b1).symm (ne_fresh n b2).symm (ne_fresh n h.past).symm
  · exact h.sr _ (List.mem_cons_of_mem _ hx)
/-- the first Linker has gone on, perhaps with other lists -/
theorem Wd.one {pn pl' dl' : Addr} {p1' : List Pc} {ds' : List Dn} (h : Wd C H l pl dl m ql el pa r p1 p2 pr ds es hs) (hp : Pen K H pn) (k : Kp [pn, l, pl, dl] H H') (n1 : pl' = pl ∧ dl' = dl ∨ H pl' = none ∧ H dl' = none) (L : Lk C H' l pl' dl' p1' ds') : Wd C H' l pl' dl' m ql el pa r p1' p2 pr ds' es hs := by
  obtain ⟨⟨dx, i1⟩, a1, a2, _⟩ := id h.L
  obtain ⟨⟨dy, i2⟩, b1, b2, _⟩ := id h.M
  have ni4 : ∀ {x a b c d : Addr}, x ≠ a → x ≠ b → x ≠ c → x ≠ d → x ∉ [a, b, c, d] := fun h1 h2 h3 h4 z => by
    simp only [List.mem_cons, List.not_mem_nil, or_false] at z
    rcases z with z | z | z | z
    · exact h1 z
    · exact h2 z
    · exact h3 z
    · exact h4 z
  have far : ∀ {x : Addr} {o : HO}, H x = some o → (∀ D dz fs, o ≠ .ins D dz fs) → x ≠ pn → x ≠ pl → x ≠ dl → x ∉ [pn, l, pl, dl] := fun {x o} e no q0 q1 q2 => ni4 q0 (fun z => no _ _ _ (by rw [z, i1] at e; exact (Option.some.inj e).symm)) q1 q2
  obtain ⟨x1, x2, x3⟩ := mem3 h.s1
  obtain ⟨y1, y2, y3⟩ := mem3 h.s2
  have kind : ∀ {xs : List V} D dz fs, (HO.lst xs) ≠ .ins D dz fs := fun {xs} D dz fs z => by cases z
  have fr : ∀ x, (x = ql ∨ x = el ∨ x = pa ∨ x ∈ r :: hs.map (·.1)) → (∃ xs, H x = some (.lst xs)) → x ≠ pl ∧ x ≠ dl ∧ x ≠ pl' ∧ x ≠ dl' := fun x hx ⟨xs, e⟩ => by
    have h1 : x ≠ pl ∧ x ≠ dl := by
      rcases hx with rfl | rfl | rfl | hx
      · exact ⟨x1.symm, y1.symm⟩
      · exact ⟨x2.symm, y2.symm⟩
      · exact ⟨x3.symm, y3.symm⟩
      · exact ⟨(mem5 (h.sr x hx)).1, (mem5 (h.sr x hx)).2.1⟩
    rcases n1 with ⟨rfl, rfl⟩ | ⟨n1, n2⟩
    · exact ⟨h1.1, h1.2, h1.1, h1.2⟩
    · exact ⟨h1.1, h1.2, ne_fresh n1 e, ne_fresh n2 e⟩
  have f1 := fr ql (.inl rfl) ⟨_, b1⟩
  have f2 := fr el (.inr (.inl rfl)) ⟨_, b2⟩
  have f3 := fr pa (.inr (.inr (.inl rfl))) ⟨_, h.past⟩
  have f4 := fr r (.inr (.inr (.inr List.mem_cons_self))) ⟨_, h.R.lst⟩
  have f5 : ∀ x ∈ hs, x.1 ≠ pl ∧ x.1 ≠ dl ∧ x.1 ≠ pl' ∧ x.1 ≠ dl' := fun x hx => fr x.1 (.inr (.inr (.inr (List.mem_cons_of_mem _ (List.mem_map.mpr ⟨x, hx, rfl⟩))))) ⟨_, (h.hr x hx).lst⟩
  have mo : m ∉ [pn, l, pl, dl] := ni4 (hp.neI i2) h.lm.symm (ne_kind i2 a1 (by intro z; cases z)) (ne_kind i2 a2 (by intro z; cases z))
  refine ⟨L, h.M.kp k mo (far b1 kind (hp.neP b1) f1.1 f1.2.1) (far b2 kind (hp.neP (f := fun x : Dn => x.a) b2) f2.1 f2.2.1), h.R.kp k (far h.R.lst kind (hp.neP h.R.lst) f4.1 f4.2.1), k.get h.past (far h.past kind (hp.neP (f := fun x : Addr × List Pc => x.1) h.past) f3.1 f3.2.1), fun x hx => (h.hr x hx).kp k (far (h.hr x hx).lst kind (hp.neP (h.hr x hx).lst) (f5 x hx).1 (f5 x hx).2.1),
    ni3 f1.2.2.1.symm f2.2.2.1.symm f3.2.2.1.symm, ni3 f1.2.2.2.symm f2.2.2.2.symm f3.2.2.2.symm, h.s3, h.s4, fun x hx => ?_, h.lm⟩
  obtain ⟨_, _, g3, g4, g5⟩ := mem5 (h.sr x hx)
  rcases List.mem_cons.mp hx with rfl | hx'
  · exact ni5 f4.2.2.1 f4.2.2.2 g3 g4 g5
  · obtain ⟨y, hy, rfl⟩ := List.mem_map.mp hx'
    exact ni5 (f5 y hy).2.2.1 (f5 y hy).2.2.2 g3 g4 g5
/-- a list of texts is none of references -/
theorem ne_SR {N b : Addr} {xs : List Str} {ys : List Addr} (h : H N = some (.lst (xs.map V.str))) (n : 0 < xs.length) (h' : H b = some (.lst (ys.map V.ref))) : N ≠ b := by
  rintro rfl
  rw [h] at h'
  have z : xs.map V.str = ys.map V.ref := by
    injection h' with h'
    injection h'
  cases xs with
  | nil => exact absurd n (Nat.lt_irrefl _)
  | cons x xs =>
    cases ys with
    | nil => cases z
    | cons y ys =>
      rw [List.map_cons, List.map_cons] at z
      injection z with z _
      cases z
theorem refs_map {α : Type} (f : α → Addr) (l : List α) : (l.map fun x => V.ref (f x)) = (l.map f).map V.ref := by rw [List.map_map]; rfl
/-- both lists of a Linker may change, the pen stays -/
theorem Lk.pen {pn : Addr} (hp : Pen K H pn) (L : Lk C H l pl dl p1 ds) (k : Kp [pl, dl] H H') : Pen K H' pn :=
  hp.kp k (ni2 (hp.neP L.pcs).symm (hp.neP (f := fun x : Dn => x.a) L.dns).symm) fun b hb => by
    rcases List.mem_cons.mp hb with rfl | hb
    · exact ⟨_, L.pcs⟩
    · rw [List.mem_singleton.mp hb]
      exact ⟨_, L.dns⟩
/-- the other Linker has gone on -/
theorem Wd.two {p2' : List Pc} {es' : List Dn} (h : Wd C H l pl dl m ql el pa r p1 p2 pr ds es hs) (k : Kp [ql, el] H H') (M : Lk C H' m ql el p2' es') : Wd C H' l pl dl m ql el pa r p1 p2' pr ds es' hs := by
  obtain ⟨⟨dx, i1⟩, a1, a2, _⟩ := id h.L
  obtain ⟨_, b1, b2, _⟩ := id h.M
  obtain ⟨x1, x2, x3⟩ := mem3 h.s1
  obtain ⟨y1, y2, y3⟩ := mem3 h.s2
  have g := fun x hx => mem5 (h.sr x hx)
  refine ⟨h.L.kp k (ni2 (ne_kind i1 b1 (by intro z; cases z)) (ne_kind i1 b2 (by intro z; cases z))) (ni2 x1 x2) (ni2 y1 y2), M, h.R.kp k (ni2 (g r List.mem_cons_self).2.2.1 (g r List.mem_cons_self).2.2.2.1), k.get h.past (ni2 h.s3.symm h.s4.symm), fun x hx => (h.hr x hx).kp k ?_, h.s1, h.s2, h.s3, h.s4, h.sr, h.lm⟩
  have := g x.1 (List.mem_cons_of_mem _ (List.mem_map.mpr ⟨x, hx, rfl⟩))
  exact ni2 this.2.2.1 this.2.2.2.1
end
end WM
set_option Elab.async false
set_option linter.all false
set_option maxRecDepth 100000
set_option maxHeartbeats 2000000
namespace WM
open PySem PySem.Spec PyProof.Rows L2
local macro_rules | `(tactic| walk_at "ne") => `(tactic| first | assumption | exact Ne.symm (by assumption) | exact ne_fresh (by assumption) (by walk_at "hp") | exact (ne_fresh (by assumption) (by walk_at "hp")).symm | exact ne_kind (by walk_at "hp") (by walk_at "hp") (by intro z; cases z))
local macro_rules | `(tactic| walk_at "ni") => `(tactic| first | exact List.not_mem_nil | assumption | exact ni1 (by walk_at "ne") | exact ni2 (by walk_at "ne") (by walk_at "ne") | exact ni3 (by walk_at "ne") (by walk_at "ne") (by walk_at "ne"))
local macro_rules | `(tactic| walk_at "hp") => `(tactic| first | assumption | exact upd_same | (apply upd_getN; (assumption); (walk_at "hp")) | (apply Kp.tup; (assumption); (walk_at "hp")) | (apply Kp.get; (assumption); (walk_at "hp"); (walk_at "ni")))
local macro_rules | `(tactic| walk_at "sq") => `(tactic| first | assumption | exact SqL.of (by walk_at "hp") | (apply Kp.sqL; (assumption); (walk_at "sq"); (walk_at "ni")))
local macro_rules | `(tactic| walk_at "kp") => `(tactic| first | exact Kp.refl _ _ | assumption | exact Kp.nil (by assumption) | (refine' Kp.step (by assumption) ?_ (by first | exact fun _ z => z | exact fun _ z => nomatch z | simp); walk_at "kp"))
local macro_rules | `(tactic| walk_at "tp") => `(tactic| first | assumption | exact Tp.non | exact Tp.bl _ | exact Tp.int _ | exact Tp.str _ | (apply Tp.tup; (walk_at "hp"); (walk_at "tps")) | (apply Tp.kp; (assumption); (walk_at "tp")))
local macro_rules | `(tactic| walk_at "tps") => `(tactic| first | exact TpAll.nil | (refine TpAll.cons ?_ ?_; (walk_at "tp"); (walk_at "tps")))
local macro_rules | `(tactic| walk_at "lk") => `(tactic| first | assumption | rfl)
local macro_rules | `(tactic| walk_at "go1") => `(tactic| first | with_reducible refine x_seq ?_ | with_reducible refine x_asg ?_ | with_reducible refine x_drop ?_ | with_reducible refine x_ret ?_ | with_reducible refine x_if ?_ | with_reducible refine x_next ?_ | with_reducible refine x_par ?_ | with_reducible refine x_par3 ?_ | with_reducible refine x_two ?_ | with_reducible refine x_three ?_ | with_reducible refine x_sfld ?_ | with_reducible refine x_retN ?_ | with_reducible refine x_brk ?_ | with_reducible refine x_name ?_ | with_reducible refine x_gsub ?_ | with_reducible refine x_gcons ?_ | with_reducible refine x_gnil ?_ | ((with_reducible apply x_gtup); (walk_at "hp"); exact rfl) | ((with_reducible apply x_var); exact rfl) | with_reducible refine x_c ?_ | with_reducible refine x_op ?_ | with_reducible refine x_un ?_ | with_reducible refine x_nil ?_ | with_reducible refine x_cons ?_ | with_reducible refine x_tup ?_ | with_reducible refine x_lst ?_ | with_reducible refine x_fldE ?_ | ((with_reducible apply x_fld); (walk_at "hp"); assumption; assumption; (walk_at "lk")) | with_reducible refine x_cal ?_ | with_reducible refine x_metE ?_ | with_reducible refine x_calS ?_ | with_reducible refine x_metS ?_ | ((with_reducible apply x_met); (walk_at "hp"); (walk_at "lk")) | with_reducible refine x_newI ?_ | with_reducible refine x_cb ?_ | with_reducible refine x_bm ?_ | with_reducible refine x_bm0 ?_ | ((with_reducible apply x_bmL); (walk_at "hp")) | with_reducible refine x_sl ?_ | with_reducible refine x_nop ?_ | with_reducible refine x_part ?_ | with_reducible refine x_kP ?_ | with_reducible refine x_ife ?_ | with_reducible refine x_andV ?_ | with_reducible refine x_orV ?_ | with_reducible refine x_notV ?_ | with_reducible refine x_test ?_ | with_reducible refine x_tB ?_ | with_reducible refine x_kB ?_ | with_reducible refine x_and ?_ | with_reducible refine x_or ?_ | with_reducible refine x_not ?_ | with_reducible refine k_T ?_ | with_reducible refine k_F ?_ | with_reducible refine k_not ?_ | walk_at "go2")
local macro_rules | `(tactic| walk_at "go2") => `(tactic| first | ((with_reducible apply x_setF); (walk_at "hp"); assumption; assumption; exact Nat.le_of_ble_eq_true rfl; exact rfl; intro _ _ _) | ((with_reducible apply x_append); (walk_at "hp"); (first | omega | (simp; omega)); intro _ _ _) | ((with_reducible apply x_setL); (walk_at "hp"); exact rfl; intro _ _ _) | with_reducible refine x_addI ?_ | with_reducible refine x_cmp ?_ | with_reducible refine x_subI ?_ | with_reducible refine x_eqI ?_ | with_reducible refine x_eqS ?_ | with_reducible refine x_neI ?_ | with_reducible refine x_neS ?_ | with_reducible refine x_isNo ?_ | with_reducible refine x_notNo ?_ | ((with_reducible apply x_modI); (first | omega | decide)) | ((with_reducible apply x_divI); (first | omega | decide); (first | omega | decide)) | ((with_reducible apply x_mulI); (first | exact .inl ⟨by omega, by omega⟩ | exact .inr ⟨by decide, by decide⟩ | exact .inr ⟨by omega, by omega⟩)) | ((with_reducible apply x_powI); exact ⟨by decide, by decide, by decide⟩) | ((with_reducible apply x_ixT); (walk_at "hp"); exact rfl) | ((with_reducible apply x_ixL); (walk_at "sq"); exact rfl) | ((with_reducible apply x_lenL); (walk_at "sq")) | ((with_reducible apply x_newT); exact Nat.le_of_ble_eq_true rfl; intro _ _ _ _ _) | ((with_reducible apply x_newL); exact Nat.le_of_ble_eq_true rfl; intro _ _ _ _ _) | with_reducible refine x_for ?_ | with_reducible refine x_iL ?_ | with_reducible refine x_iR1 ?_ | with_reducible refine x_iR2 ?_ | with_reducible refine x_iE ?_ | ((with_reducible apply x_kIL); (walk_at "sq")) | ((with_reducible apply x_kE); (walk_at "sq")) | with_reducible refine x_lc ?_ | with_reducible refine x_yes ?_ | ((with_reducible apply x_wp); exact rfl))
local macro_rules | `(tactic| walk_at "go") => `(tactic| (walk_at "go1"; repeat walk_at "go1"))
local macro_rules | `(tactic| walk_at "fr") => `(tactic| first | assumption | exact Kp.free (by assumption) _ (by walk_at "fr"))
local macro_rules | `(tactic| walk_at "lk") => `(tactic| first | exact lf_p _ _ | exact lf_d _ _ | exact lf_no _ _ (by decide +kernel) (by decide +kernel))
local macro_rules | `(tactic| walk_at "go1") => `(tactic| first | with_reducible refine x_rs ?_ | ((with_reducible apply x_niS); (walk_at "sq")) | ((with_reducible apply x_inS); (walk_at "sq")))
local macro_rules | `(tactic| walk_at "go1") => `(tactic| first | with_reducible refine x_xvE ?_ | ((with_reducible apply x_isV); (walk_at "hp"); (walk_at "hp"); assumption; (first | exact ClsV.own _ | exact ClsV.ty _); assumption) | ((with_reducible apply x_xv); (walk_at "hp"); (walk_at "hp"); assumption; assumption) | ((with_reducible apply x_addL); (walk_at "hp"); (walk_at "hp"); exact Nat.le_of_ble_eq_true rfl; intro _ _ _ _ _))
section
variable {P : Program} {w : World} {K : PySem.W.Frag} {mg : Str → Option Value} {base : Heap} {C : Addr}
theorem of_body {t : TS} {N : List Str} {vs : List V} {H : Hp} {Q : VK} (h : Body t N vs H Q) : t { nx := fun _ H' => Q .non H', rt := Q } (start N vs) H := h
theorem x_neg {i : Int} {H : Hp} {Q : VK} (q : Q (.int (-i)) H) : rU (fun i => V.int (-i)) (.int i) H Q := ⟨i, rfl, q⟩
/-- what holds between two turns of the law -/
structure Inv8 (K : PySem.W.Frag) (C : Addr) (xs : List Str) (H : Hp) (pn N l pl dl m ql el pa r : Addr) (ps : List Pc) (ds es : List Dn) (hs : List (Addr × List Pc)) : Prop where
  W : Wd C H l pl dl m ql el pa r ps ps ps ds es hs
  pen : Pen K H pn
  N : H N = some (.lst (xs.map V.str))
  c1 : Chain ps ds (hs.map (·.2))
  c2 : Chain ps es (hs.map (·.2))
  kk : ds.map (·.k) = es.map (·.k)
  g : Good xs ps
  gh : ∀ x ∈ hs, Good xs x.2
theorem SqF.kp2 {fp : List Addr} {H H' : Hp} {a : Addr} {xs : List V} (k : Kp fp H H') (h : SqF K H a xs) (hf : ∀ b ∈ fp, ∀ o u, H b ≠ some (.frz o u)) : SqF K H' a xs := by
  rcases h with ⟨o, h⟩ | h
  · exact .inl ⟨o, k.get h fun z => hf a z _ _ h⟩
  · exact .inr h
theorem Pen.kp2 {fp : List Addr} {H H' : Hp} {pn : Addr} (k : Kp fp H H') (h : Pen K H pn) (n : pn ∉ fp) (hf : ∀ b ∈ fp, ∀ o u, H b ≠ some (.frz o u)) : Pen K H' pn := by
  obtain ⟨sc, xs, a, c, e, s, l, p⟩ := h
  exact ⟨sc, xs, a, c, k.get e n, s.kp2 k hf, l, p⟩
theorem len_nobody : ("nobody" : Str).length = 6 := by decide +kernel
theorem dpAll_map {α : Type} {H : Hp} (f : α → V) (g : α → PyData) : ∀ {l : List α}, (∀ x ∈ l, Dp K H (f x) (g x)) → DpAll K H (l.map f) (l.map g)
  | [], _ => .nil
  | a :: l, h => .cons (h a List.mem_cons_self) (dpAll_map f g fun x hx => h x (List.mem_cons_of_mem _ hx))
theorem Inv8.kp0 {xs : List Str} {H H' : Hp} {pn N l pl dl m ql el pa r : Addr} {ps : List Pc} {ds es : List Dn} {hs : List (Addr × List Pc)} (k : Kp [] H H') (I : Inv8 K C xs H pn N l pl dl m ql el pa r ps ds es hs) : Inv8 K C xs H' pn N l pl dl m ql el pa r ps ds es hs :=
  ⟨I.W.kp0 k, I.pen.kp0 k, k.get I.N List.not_mem_nil, I.c1, I.c2, I.kk, I.g, I.gh⟩
theorem Inv8.kpn {xs : List Str} {H H' : Hp} {pn N l pl dl m ql el pa r : Addr} {ps : List Pc} {ds es : List Dn} {hs : List (Addr × List Pc)} (k : Kp [pn] H H') (hp : Pen K H' pn) (I : Inv8 K C xs H pn N l pl dl m ql el pa r ps ds es hs) : Inv8 K C xs H' pn N l pl dl m ql el pa r ps ds es hs :=
  ⟨I.W.kpn I.pen k, hp, k.get I.N (ni1 (I.pen.neS I.N)), I.c1, I.c2, I.kk, I.g, I.gh⟩
theorem Wd.pop {H H' : Hp} {l pl dl m ql el pa r : Addr} {p1 p2 pr : List Pc} {ds es : List Dn} {hs : List (Addr × List Pc)} {y : Addr × List Pc} (h : Wd C H l pl dl m ql el pa r p1 p2 pr ds es (hs ++ [y])) (k : Kp [pa] H H') (e : H' pa = some (.lst (hs.map fun x => V.ref x.1))) : Wd C H' l pl dl m ql el pa y.1 p1 p2 y.2 ds es hs := by
  obtain ⟨⟨dx, i1⟩, a1, a2, _⟩ := id h.L
  obtain ⟨⟨dy, i2⟩, b1, b2, _⟩ := id h.M
  have l1 : l ≠ pa := ne_kind i1 h.past (by intro z; cases z)
  have l2 : m ≠ pa := ne_kind i2 h.past (by intro z; cases z)
  have q1 := (mem3 h.s1).2.2
  have q2 := (mem3 h.s2).2.2
  have my : ∀ x ∈ hs ++ [y], x.1 ∈ r :: (hs ++ [y]).map (·.1) := fun x hx => List.mem_cons_of_mem _ (List.mem_map.mpr ⟨x, hx, rfl⟩)
  have qr := fun x hx => (mem5 (h.sr x hx)).2.2.2.2
  have yl : y ∈ hs ++ [y] := List.mem_append_right _ (List.mem_singleton.mpr rfl)
  refine ⟨h.L.kp k (ni1 l1) (ni1 q1) (ni1 q2), h.M.kp k (ni1 l2) (ni1 h.s3) (ni1 h.s4), (h.hr y yl).kp k (ni1 (qr _ (my y yl))), e, fun x hx => (h.hr x (List.mem_append_left _ hx)).kp k (ni1 (qr _ (my x (List.mem_append_left _ hx)))), h.s1, h.s2, h.s3, h.s4, fun x hx => ?_, h.lm⟩
  rcases List.mem_cons.mp hx with rfl | hx
  · exact h.sr _ (my y yl)
  · obtain ⟨z, hz, rfl⟩ := List.mem_map.mp hx
    exact h.sr _ (my z (List.mem_append_left _ hz))
/-- names of equal pieces are equal -/
theorem names_eq {xs : List Str} {ps : List Pc} {H : Hp} {p q : Addr} {Q : VK} (g : Good xs ps) (hg : ∀ x ∈ xs, NmG x) (e1 : H p = some (.lst ((ps.map (·.nm)).map V.str))) (e2 : H q = some (.lst ((ps.map (·.nm)).map V.str))) (h : Q (.bl false) H) : rNeA K (.ref p) (.ref q) H Q := by
  have shs : Shp 60 (.list ((ps.map (·.nm)).map PyData.str)) := (shp_list (n := 1) fun x hx => by
    obtain ⟨c, hc, rfl⟩ := List.mem_map.mp hx
    exact Shp.str (hg _ (g.sub c hc)).ok.ok).mono (by decide)
  have tps : ∀ x ∈ ps.map (·.nm), Tp H (V.str x) (PyData.str x) := fun x _ => .str x
  have er : PyData.eqv (.list ((ps.map (·.nm)).map PyData.str)) (.list ((ps.map (·.nm)).map PyData.str)) = true := by
    simp only [PyData.eqv]
    exact TpAll.eqvR (tpAll_map _ _ tps)
  refine x_neD (dp_list e1 tps) (dp_list e2 tps) shs shs ?_
  rw [er]
  exact h
/-- past != [] -/
theorem past_ne {H : Hp} {pa q : Addr} {hs : List (Addr × List Pc)} {Q : VK} (e : H pa = some (.lst (hs.map fun x => V.ref x.1))) (hr : ∀ x ∈ hs, Rows H x.1 x.2) (e2 : H q = some (.lst [])) (h : Q (.bl (!hs.isEmpty)) H) : rNeA K (.ref pa) (.ref q) H Q := by
  have d : Dp K H (.ref pa) (.list (hs.map fun x => PyData.list (x.2.map (·.d)))) := .lst (SqL.of e) (dpAll_map (fun x : Addr × List Pc => V.ref x.1) _ fun x hx => dp_list (hr x hx).lst fun c hc => ((hr x hx).ok c hc).dat)
  have sh : Shp 60 (.list (hs.map fun x => PyData.list (x.2.map (·.d)))) := (shp_list (n := 21) fun x hx => shp_list (n := 20) fun c hc => ((hr x hx).ok c hc).shp).mono (by decide)
  refine x_neD d (.lst (SqL.of e2) .nil) sh ((Shp.list (n := 1) (ds := []) fun _ z => nomatch z).mono (by decide)) ?_
  cases hs with
  | nil => exact h
  | cons y r =>
    have z : PyData.eqv (.list ((y :: r).map fun x => PyData.list (x.2.map (·.d)))) (.list []) = false := by simp only [List.map_cons, PyData.eqv, PyData.eqvAll]
    rw [z]
    exact h
theorem k_join8 {b : Bool} {A : Prop} {M : Hp → Prop} {H : Hp} (G : Hp → Prop) (hG : G H) (fin : ∀ H', G H' → M H') (hA : (∀ H', G H' → M H') → A) : kIf b A (M H) := by
  cases b with
  | true => exact hA fin
  | false => exact k_F (fin H hG)
def spLaw (K : PySem.W.Frag) : Sp := fun vs H Q _ => ∃ (a : Addr) (ns : List Int), vs = [.ref a] ∧ SqF K H a (ns.map V.int) ∧ ns.length ≤ 63 ∧ ∀ H', Q (.bl true) H'
abbrev s_law : Stmt := top 22
theorem sc_law : FnScope ["script", "pen", "names", "one", "other", "rows", "past", "turn", "deeds", "each", "deed"] ["script"] (defScope s_law) := ⟨rfl, rfl, rfl, by decide +kernel, rfl, by decide +kernel, by decide +kernel⟩
theorem D_law {CM CT CN CB : Addr} (Z : Blt mg) (Z2 : mg "max" = none ∧ mg "min" = none) (cl : Cls K C) (NE : NeOk K C) (D_Linker_init : Met P w K mg base CX0 C "__init__" 1 (spNew C)) (MK_Linker : ClsMk K mg "Linker" C) (M_names : Met P w K mg base CX0 C "names" 1 (spNames C)) (M_undo : Met P w K mg base CX0 C "undo" 1 (spUndo C))
    (M_eq : Met P w K mg base CX0 C "__eq__" 1 (spEqL C)) (D_next : Def P w K mg base CX0 "_law_next" 2 (spNext K)) (D_e_names : Def P w K mg base CX0 "_law_e_names" 3 (spNms K)) (D_e_deed : Def P w K mg base CX0 "_law_e_deed" 4 (spDeed K)) (D_e_after : Def P w K mg base CX0 "_law_e_after" 2 spAfter)
    (D_e_do : Def P w K mg base (L2.CX P w) "_law_e_do" 5 (spDo C CM CT CN)) (D_e_like : Def P w K mg base CX0 "_law_e_like" 4 (spLike C)) (D_e_breaks : Def P w K mg base CX0 "_law_e_breaks" 7 (spBreaks C)) (D_e_in_parts : Def P w K mg base CX0 "_law_e_in_parts" 7 (spParts K C))
    {fl : Addr} {fd : FuncData} (F : Fun K "law" "law" s_law fl fd) : FnOk P w K mg base CX0 8 fl fd ["script"] (spLaw K) := by
  refine F.ok sc_law (fun vs H Q E h => by obtain ⟨pn, nl, rfl, _⟩ := h; rfl) fun cdv A outer s H vs Q E hr h => ⟨_, (pss_cons (ps_set (i := 1) sc_law.nd rfl (Or.inl rfl) (pe_lst (pa_cons (pv 0) (pa_cons pe_int (pa_cons pe_int pa_nil))))) (pss_cons (ps_set (i := 2) sc_law.nd rfl (Or.inl rfl) (pe_def D_e_names (hr.mono (by decide)) pass0 (pa_cons (pv 1) pa_nil))) (pss_cons (ps_par (i := 3) (j := 4) (by rfl) sc_law.nd rfl rfl (by decide) rfl rfl (pa_cons (pe_new0 D_Linker_init MK_Linker (hr.mono (by decide)) pass0) (pa_cons (pe_new0 D_Linker_init MK_Linker (hr.mono (by decide)) pass0) pa_nil)) (by rfl)) (pss_cons (ps_set (i := 5) sc_law.nd rfl (Or.inl rfl) (pe_lst pa_nil)) (pss_cons (ps_set (i := 6) sc_law.nd rfl (Or.inl rfl) (pe_lst pa_nil)) (pss_cons (ps_for PassesOwn.never rfl (pi_range1 (by rfl) Z.range (pa_cons (pe_callB (call_maxI rfl) (by rfl) Z2.1 (by decide +kernel) (pa_cons pe_int (pa_cons (pe_callB (call_minI rfl) (by rfl) Z2.2 (by decide +kernel) (pa_cons pe_int (pa_cons (pe_op op_addA (pe_callB (lenK (K := K)) (by rfl) Z.len PySem.boot_len (pa_cons (pv 0) pa_nil)) pe_int) pa_nil))) pa_nil))) pa_nil)) (pg_name (i := 7) sc_law.nd rfl (Or.inl rfl)) (pss_cons (ps_set (i := 8) sc_law.nd rfl (Or.inl rfl) (pe_lst pa_nil)) (pss_cons (ps_for PassesOwn.never rfl (pi_range1 (by rfl) Z.range (pa_cons (pe_op op_addA pe_int (pe_def D_next (hr.mono (by decide)) pass0 (pa_cons (pv 1) (pa_cons pe_int pa_nil)))) pa_nil)) (pg_name (i := 9) sc_law.nd rfl (Or.inl rfl)) (pss_cons (ps_expr (bmK (K := K) PySem.F.plainAttrs_list PySem.F.slot_list_append PySem.F.type_list_append mt_append (pv 8) (pa_cons (pe_def D_e_deed (hr.mono (by decide)) pass0 (pa_cons (pv 1) (pa_cons (pv 2) (pa_cons (pv 5) pa_nil)))) pa_nil))) (pss_cons (ps_expr (bmK (K := K) PySem.F.plainAttrs_list PySem.F.slot_list_append PySem.F.type_list_append mt_append (pv 6) (pa_cons (pv 5) pa_nil))) (pss_one (ps_set (i := 5) sc_law.nd rfl (Or.inl rfl) (pe_def D_e_after (hr.mono (by decide)) pass0 (pa_cons (pv 5) (pa_cons (pe_ix (ixK (K := K)) (pv 8) (pe_un un_neg pe_int) (fun _ _ => rfl)) pa_nil)))))))) (pss_cons (ps_if (PW.pt (pw_and (pt_cmpR (eqK (K := K) hr.units) (pe_def D_next (hr.mono (by decide)) pass0 (pa_cons (pv 1) (pa_cons pe_int pa_nil))) pe_int (nomark _)) (pw_and1 (pt_not (pt_val (pe_def D_e_breaks (hr.mono (by decide)) pass0 (pa_cons (pv 3) (pa_cons (pe_op op_addA (pv 8) (pe_lst (pa_cons (pe_tup (pa_cons pe_str (pa_cons pe_str pa_nil))) pa_nil))) (pa_cons (pe_callB (lenK (K := K)) (by rfl) Z.len PySem.boot_len (pa_cons (pv 8) pa_nil)) pa_nil))))))))) (pss_one (ps_ret pe_bl)) pss_nil) (pss_cons (ps_expr (pe_def D_e_in_parts (hr.mono (by decide)) pass0 (pa_cons (pv 1) (pa_cons (pv 3) (pa_cons (pv 8) pa_nil))))) (pss_cons (ps_for PassesOwn.never rfl (listIt (K := K) (pv 8)) (pg_name (i := 10) sc_law.nd rfl (Or.inl rfl)) (pss_one (ps_expr (pe_def D_e_do (hr.mono (by decide)) passL (pa_cons (pv 4) (pa_cons (pv 10) pa_nil)))))) (pss_cons (ps_if (PW.pt (pw_or (pt_cmpR (neM M_eq NE (hr.mono (by decide)) pass0) (pv 3) (pv 4) (nomark _)) (pw_or1 (pt_not (pt_val (pe_def D_e_like (hr.mono (by decide)) pass0 (pa_cons (pv 3) (pa_cons (pv 5) pa_nil)))))))) (pss_one (ps_ret pe_bl)) pss_nil) (pss_cons (ps_for PassesOwn.never rfl (pi_range1 (by rfl) Z.range (pa_cons (pe_def D_next (hr.mono (by decide)) pass0 (pa_cons (pv 1) (pa_cons pe_int pa_nil))) pa_nil)) (pg_name (i := 9) sc_law.nd rfl (Or.inl rfl)) (pss_cons (ps_if (PW.pt (pw_or (pt_cmpR (neK (K := K) hr.units) (pe_met0 M_undo cl (hr.mono (by decide)) pass0 (pv 3)) (pe_met0 M_undo cl (hr.mono (by decide)) pass0 (pv 4)) (nomark _)) (pw_or1 (pt_cmpR (neK (K := K) hr.units) (pe_met0 M_names cl (hr.mono (by decide)) pass0 (pv 3)) (pe_met0 M_names cl (hr.mono (by decide)) pass0 (pv 4)) (nomark _))))) (pss_one (ps_ret pe_bl)) pss_nil) (pss_one (ps_set (i := 5) sc_law.nd rfl (Or.inl rfl) (pe_ifExp (pt_cmpR (neK (K := K) hr.units) (pv 6) (pe_lst pa_nil) (nomark _)) (bm0K (K := K) PySem.F.plainAttrs_list PySem.F.slot_list_pop PySem.F.type_list_pop mt_pop (pv 6)) (pv 5)))))) (pss_one (ps_if (PW.pt (pw_or (pt_not (pt_val (pe_def D_e_like (hr.mono (by decide)) pass0 (pa_cons (pv 3) (pa_cons (pv 5) pa_nil))))) (pw_or1 (pt_not (pt_val (pe_def D_e_like (hr.mono (by decide)) pass0 (pa_cons (pv 4) (pa_cons (pv 5) pa_nil)))))))) (pss_one (ps_ret pe_bl)) pss_nil)))))))))) (pss_one (ps_ret pe_bl)))))))), ?_⟩
  obtain ⟨a, ns, rfl, hs, hl, k⟩ := h
  refine of_body (x_body ?_)
  walk_at "go"
  rename_i pn H1 k1 n1 e1
  have hs1 : SqF K H1 a (ns.map V.int) := hs.kp k1 fun _ z => nomatch z
  have hp1 : Pen K H1 pn := ⟨a, ns, 0, 0, e1, hs1, hl, Int.le_refl _⟩
  refine ⟨pn, rfl, hp1, fun N xs H2 k2 hp2 n2 e2 h6 hg => ?_⟩
  walk_at "go"
  refine x_newL0 fun l pl dl H3 k3 m1 m2 m3 d1 d2 L3 => ?_
  walk_at "go"
  refine x_newL0 fun m ql el H4 k4 m4 m5 m6 d4 d5 L4 => ?_
  walk_at "go"
  rename_i r H5 k5 n5 e5 pa H6 k6 n6 e6
  have hlen : (ns.map V.int).length = ns.length := List.length_map ..
  have k26 : Kp [] H2 H6 := ((k3.trans k4).trans k5).trans k6
  have hs6 : SqL K H6 a (ns.map V.int) := ((hs1.kp k2 (one_lst e1)).kp k26 fun _ z => nomatch z).sq
  have hp6 := hp2.kp0 k26
  have hN6 : H6 N = some (.lst (xs.map V.str)) := k26.get e2 List.not_mem_nil
  have k36 : Kp [] H3 H6 := (k4.trans k5).trans k6
  have k46 : Kp [] H4 H6 := k5.trans k6
  have L6 := L3.kp k36 List.not_mem_nil List.not_mem_nil List.not_mem_nil
  have M6 := L4.kp k46 List.not_mem_nil List.not_mem_nil List.not_mem_nil
  have e5' : H6 r = some (.lst []) := k6.get e5 List.not_mem_nil
  have I6 : Inv8 K C xs H6 pn N l pl dl m ql el pa r [] [] [] [] := by
    obtain ⟨⟨dx, i3⟩, a3, b3, _⟩ := id L3
    obtain ⟨_, a4, b4, _⟩ := id L4
    have a34 : H4 pl = some _ := k4.get a3 List.not_mem_nil
    have b34 : H4 dl = some _ := k4.get b3 List.not_mem_nil
    have a5 := fun {b : Addr} {o : HO} (h : H4 b = some o) => k5.get h List.not_mem_nil
    refine ⟨⟨L6, M6, ⟨e5', (fun _ z => nomatch z)⟩, e6, (fun _ z => nomatch z), ni3 (ne_fresh m5 a3) (ne_fresh m6 a3) (ne_fresh n6 (a5 a34)), ni3 (ne_fresh m5 b3) (ne_fresh m6 b3) (ne_fresh n6 (a5 b34)), ne_fresh n6 (a5 a4), ne_fresh n6 (a5 b4), fun x hx => ?_, ne_fresh m4 i3⟩, hp6, hN6, .nil, .nil, rfl, .nil, fun _ z => nomatch z⟩
    rw [List.mem_singleton.mp hx]
    exact ni5 (ne_fresh n5 a34).symm (ne_fresh n5 b34).symm (ne_fresh n5 a4).symm (ne_fresh n5 b4).symm (ne_fresh n6 e5)
  clear k26 k36 k46
  walk_at "go"
  refine x_min ?_
  walk_at "go"
  refine x_max ?_
  walk_at "go"
  have hb : ∀ x : Int, 2 ≤ (if (if x < 6 then x else 6) > 2 then (if x < 6 then x else 6) else 2 : Int) ∧ (if (if x < 6 then x else 6) > 2 then (if x < 6 then x else 6) else 2 : Int) ≤ 6 := fun x => by
    by_cases h1 : x < 6
    · rw [if_pos h1]
      by_cases h2 : x > 2
      · rw [if_pos h2]; omega
      · rw [if_neg h2]; omega
    · rw [if_neg h1]
      rw [if_pos (by decide)]
      omega
  obtain ⟨b1, b2⟩ := hb (((ns.map V.int).length : Int) + 2)
  refine x_kR1 (by omega) (by omega) ?_
  refine k_forR (fun i σ H' => ∃ (pl dl r : Addr) (ps : List Pc) (ds es : List Dn) (hs : List (Addr × List Pc)) (v7 v8 v9 v10 : Option V), σ = [some (.ref a), some (.ref pn), some (.ref N), some (.ref l), some (.ref m), some (.ref r), some (.ref pa), v7, v8, v9, v10] ∧ Inv8 K C xs H' pn N l pl dl m ql el pa r ps ds es hs ∧ hs.length ≤ 8 * i)
    ⟨pl, dl, r, [], [], [], [], _, _, _, _, rfl, I6, Nat.zero_le _⟩ ?_ ?_
  · rintro i σ H7 hi ⟨pl, dl, r, ps, ds, es, hs, v7, v8, v9, v10, rfl, I, hz⟩
    have hi6 : i < 6 := by omega
    clear I6 L6 M6 L3 L4 e5 e5' e6 hp6 hN6 hs6 d1 d2 d4 d5 m1 m2 m3 m4 m5 m6 n5 n6 k1 k2 k3 k4 k5 k6 e1 e2 n1 n2 hp1 hp2 hs1
    obtain ⟨W7, hp7, hN7, c1, c2, kk, g7, gh⟩ := I
    walk_at "go"
    rename_i q H8 k8 n8 e8
    have W8 := W7.kp0 k8
    have hp8 := hp7.kp0 k8
    have hN8 : H8 N = some (.lst (xs.map V.str)) := k8.get hN7 List.not_mem_nil
    have hNp := hp8.neS hN8
    have hqp : q ≠ pn := hp8.neP (l := ([] : List Pc)) (f := fun c => c.p) e8
    have hNq : N ≠ q := ne_fresh n8 hN7
    refine ⟨pn, 8, rfl, hp8, by decide, by decide, fun z H9 z0 z1 k9 hp9 => ?_⟩
    have W9 := W8.kpn hp8 k9
    walk_at "go"
    refine x_kR1 (by omega) (by omega) ?_
    refine k_forR (fun j σ H' => ∃ (r : Addr) (pr : List Pc) (hs' : List (Addr × List Pc)) (qs : List (Addr × Dd)) (es0 : List Dn) (is : List (List Pc)) (v9 : Option V), σ = [some (.ref a), some (.ref pn), some (.ref N), some (.ref l), some (.ref m), some (.ref r), some (.ref pa), some (.int (0 + (i : Int))), some (.ref q), v9, v10] ∧
        Wd C H' l pl dl m ql el pa r ps ps pr ds es hs' ∧ Pen K H' pn ∧ H' N = some (.lst (xs.map V.str)) ∧ H' q = some (.lst (qs.map fun x => V.ref x.1)) ∧ (∀ x ∈ qs, DdAt H' x.1 x.2 ∧ x.2.nm ∈ xs) ∧ RH ps (qs.map (·.2)) pr es0 is ∧ hs'.map (·.2) = hs.map (·.2) ++ is ∧ Good xs pr ∧ (∀ x ∈ hs', Good xs x.2) ∧ qs.length = j ∧ hs'.length = hs.length + j ∧ ∀ x ∈ alls l pl dl m ql el pa r hs', x ≠ q)
      ⟨r, ps, hs, [], [], [], _, rfl, W9, hp9, k9.get hN8 (ni1 hNp), k9.get e8 (ni1 hqp), (fun _ z => nomatch z), .nil ps, (List.append_nil _).symm, g7, gh, rfl, rfl, W7.new n8⟩ ?_ ?_
    · rintro j σ H10 hj ⟨r, pr, hs', qs, es0, is, v9, rfl, W10, hp10, hN10, hq10, hdd, hrh, hhs, g10, gh10, hqj, hhj, hnq⟩
      have hj8 : j < 8 := by omega
      have gle := g10.le
      have hpa := W10.past
      walk_at "go"
      refine ⟨pn, N, r, xs, pr, rfl, hp10, hN10, by omega, by omega, fun x hx => (hg x hx).ok, W10.R, by omega, fun ad d H11 k11 hp11 hd11 fit hnm => ?_⟩
      have W11 := W10.kpn hp10 k11
      have hq11 : H11 q = some (.lst (qs.map fun x => V.ref x.1)) := k11.get hq10 (ni1 hqp)
      have hN11 : H11 N = some (.lst (xs.map V.str)) := k11.get hN10 (ni1 hNp)
      have hpa11 := W11.past
      have hpq : pa ≠ q := hnq pa (by simp [alls])
      have hNpa : N ≠ pa := ne_SR hN11 (by omega) (by rw [hpa11, refs_map])
      have hdd11 : ∀ x ∈ qs, DdAt H11 x.1 x.2 ∧ x.2.nm ∈ xs := fun x hx => ⟨(hdd x hx).1.kp k11, (hdd x hx).2⟩
      clear k11
      walk_at "go"
      rename_i H12 k12 e12 H13 k13 e13
      refine x_neg ?_
      have hq13 : H13 q = some (.lst ((qs.map fun x => V.ref x.1) ++ [V.ref ad])) := k13.get e12 (ni1 hpq.symm)
      have W12 := W11.kp k12 fun x hx => ni1 (hnq x hx)
      have W13 := W12.push k13 e13
      have hd13 := (hd11.kp k12).kp k13
      have hp13 : Pen K H13 pn := (hp11.kp k12 (ni1 hqp.symm) (one_lst hq11)).kp k13 (ni1 (hp11.neP (f := fun x : Addr × List Pc => x.1) hpa11).symm) (one_lst W12.past)
      refine x_ixL (SqL.of hq13) (atI_last _ _) ?_
      walk_at "go"
      refine ⟨r, ad, pr, d, rfl, W13.R, hd13, fun _ _ => fit, by omega, fun r' pr' H14 k14 n14 R14 af => ?_⟩
      obtain ⟨e, st⟩ := step_of (by omega) fit af
      have W14 := W13.rows k14 n14 R14
      have hrq : r' ≠ q := (ne_fresh n14 hq13).symm
      walk_at "go"
      refine ⟨r', pr', hs' ++ [(r, pr)], qs ++ [(ad, d)], _, _, _, rfl, W14, hp13.kp0 k14, k14.get (k13.get (k12.get hN11 (ni1 hNq)) (ni1 hNpa)) List.not_mem_nil, by rw [List.map_append]; exact k14.get hq13 List.not_mem_nil, fun x hx => ?_, by rw [List.map_append]; exact hrh.snoc st, by rw [List.map_append, hhs, List.append_assoc]; rfl, g10.step hnm st, fun x hx => ?_, by rw [List.length_append, hqj]; rfl, by rw [List.length_append, hhj]; rfl, fun x hx => ?_⟩
      · rcases List.mem_append.mp hx with hx | hx
        · exact ⟨(((hdd11 x hx).1.kp k12).kp k13).kp k14, (hdd11 x hx).2⟩
        · rw [List.mem_singleton.mp hx]
          exact ⟨hd13.kp k14, hnm⟩
      · rcases List.mem_append.mp hx with hx | hx
        · exact gh10 x hx
        · rw [List.mem_singleton.mp hx]
          exact g10
      · unfold alls at hx hnq
        rw [List.map_append] at hx
        simp only [List.mem_cons, List.mem_append, List.map_cons, List.map_nil, List.not_mem_nil, or_false] at hx hnq
        rcases hx with rfl | rfl | rfl | rfl | rfl | rfl | rfl | rfl | hx | rfl
        · exact hnq _ (by simp)
        · exact hnq _ (by simp)
        · exact hnq _ (by simp)
        · exact hnq _ (by simp)
        · exact hnq _ (by simp)
        · exact hnq _ (by simp)
        · exact hnq _ (by simp)
        · exact hrq
        · exact hnq x (by simp [hx])
        · exact hnq _ (by simp)
    · rintro σ H10 ⟨r, pr, hs', qs, es0, is, v9, rfl, W10, hp10, hN10, hq10, hdd, hrh, hhs, g10, gh10, hqj, hhj, hnq⟩
      have hnat : (1 + z).toNat ≤ 8 := by omega
      walk_at "go"
      refine ⟨pn, 2, rfl, hp10, by decide, by decide, fun z2 H11 _ _ k11 hp11 => ?_⟩
      have W11 := W10.kpn hp10 k11
      have hN11 : H11 N = some (.lst (xs.map V.str)) := k11.get hN10 (ni1 hNp)
      have hq11 : H11 q = some (.lst (qs.map fun x => V.ref x.1)) := k11.get hq10 (ni1 hqp)
      have hdd11 : ∀ x ∈ qs, DdAt H11 x.1 x.2 ∧ x.2.nm ∈ xs := fun x hx => ⟨(hdd x hx).1.kp k11, (hdd x hx).2⟩
      have hg7 := g7.le
      have hg10 := g10.le
      have hcl : ds.length = hs.length := by rw [c1.len, List.length_map]
      have hcl2 : es.length = hs.length := by rw [c2.len, List.length_map]
      have hNl : ∀ {b : Addr} {ys : List Addr}, H11 b = some (.lst (ys.map V.ref)) → N ≠ b := fun h => ne_SR hN11 (by omega) h
      clear k11 k9 k8
      walk_at "go"
      refine k_dec (fun _ => ?_) (fun _ => ?_)
      · obtain ⟨⟨dx11, i11⟩, _⟩ := id W11.L
        walk_at "go"
        rename_i T H12 k12 n12 e12 Lq H13 k13 n13 e13
        refine x_addL (xs := qs.map fun x => V.ref x.1) (by walk_at "hp") e13 (by rw [List.length_map]; simp only [List.length_cons, List.length_nil]; omega) fun q2 H14 k14 n14 e14 => ?_
        have hq14 : H14 q = some (.lst (qs.map fun x => V.ref x.1)) := by walk_at "hp"
        have e12' : H14 T = some (.tup [.str "take", .str "nobody"]) := by walk_at "hp"
        have k1114 : Kp [] H11 H14 := (k12.trans k13).trans k14
        have W13 := (W11.kp0 k12).kp0 k13
        have W14 := W11.kp0 k1114
        have hp14 := hp11.kp0 k1114
        have hq2 : ∀ x ∈ alls l pl dl m ql el pa r hs', x ≠ q2 := W13.new n14
        clear k1114
        walk_at "go"
        have e14' : H14 q2 = some (.lst ((qs ++ [(T, Dd.take "nobody")]).map fun x => V.ref x.1)) := by rw [e14, List.map_append]; rfl
        refine ⟨l, pl, dl, q2, _, ps, ds, qs ++ [(T, .take "nobody")], rfl, W14.L, e14', ni2 (hq2 pl (by simp [alls])).symm (hq2 dl (by simp [alls])).symm, fun x hx => ?_, by omega, by omega, by rw [List.length_append]; simp only [List.length_cons, List.length_nil]; omega, fun rs es' hr => ?_, fun j d r' ps1 es1 hr hj hrf => ?_, fun pl' dl' H15 k15 n1 n2 L15 => ?_⟩
        · rcases List.mem_append.mp hx with hx | hx
          · exact (((hdd11 x hx).1.kp k12).kp k13).kp k14
          · rw [List.mem_singleton.mp hx]
            exact ⟨e12', fun x hx => nomatch hx⟩
        · obtain ⟨is', r1⟩ := RH.of hr
          rw [List.map_append] at r1
          obtain ⟨q', _, _, f, _, _, r2, st⟩ := r1.inv
          obtain ⟨rfl, _, _⟩ := r2.uniq g7.nd hrh
          obtain ⟨i, o, ho, eo, _⟩ := st
          have := (hg _ (g10.sub o (List.mem_of_getElem? ho))).n6
          rw [eo] at this
          exact this len_nobody
        · rw [List.map_append] at hr hj
          by_cases hjl : j < qs.length
          · rw [List.take_append_of_le_length (by rw [List.length_map]; omega)] at hr
            rw [List.getElem?_append_left (by rw [List.length_map]; exact hjl)] at hj
            exact (hrh.runs.noRef g7.nd hr hj hrf).elim
          · have := (List.getElem?_eq_some_iff.mp hj).1
            rw [List.length_append, List.length_map] at this
            simp only [List.length_map, List.length_cons, List.length_nil] at this ⊢
            omega
        · have hN14 : H14 N = some (.lst (xs.map V.str)) := k14.get (k13.get (k12.get hN11 List.not_mem_nil) List.not_mem_nil) List.not_mem_nil
          obtain ⟨⟨dx14, i14⟩, a14, b14, _⟩ := id W14.L
          have W15 := W14.one hp14 (k15.mono (by simp)) (.inr ⟨n1, n2⟩) L15
          have nq3 : q ∉ [l, pl, dl] := ni3 (hnq l (by simp [alls])).symm (hnq pl (by simp [alls])).symm (hnq dl (by simp [alls])).symm
          have nN3 : N ∉ [l, pl, dl] := ni3 (ne_kind hN14 i14 (by intro z; cases z)) (ne_SR hN14 (by omega) (by rw [a14, refs_map])) (ne_SR hN14 (by omega) (by rw [b14, refs_map (fun e : Dn => e.a)]))
          have hp15 : Pen K H15 pn := hp14.kp2 k15 (ni3 (hp14.neI i14).symm (hp14.neP a14).symm (hp14.neP (f := fun x : Dn => x.a) b14).symm) fun b hb o u e => by
            simp only [List.mem_cons, List.not_mem_nil, or_false] at hb
            rcases hb with rfl | rfl | rfl
            · rw [i14] at e; cases e
            · rw [a14] at e; cases e
            · rw [b14] at e; cases e
          have hnq15 : ∀ x ∈ alls l pl' dl' m ql el pa r hs', x ≠ q := fun x hx => by
            unfold alls at hx hnq
            simp only [List.mem_cons] at hx hnq
            rcases hx with rfl | rfl | rfl | rfl | rfl | rfl | rfl | rfl | hx
            · exact hnq _ (by simp)
            · exact hnq _ (by simp)
            · exact (ne_fresh n1 hq14).symm
            · exact (ne_fresh n2 hq14).symm
            · exact hnq _ (by simp)
            · exact hnq _ (by simp)
            · exact hnq _ (by simp)
            · exact hnq _ (by simp)
            · exact hnq x (by simp [hx])
          obtain ⟨pl, dl, H12, W12, hp12, hN12, hq12, hdd12, hnq12, hH⟩ : ∃ pl dl H12, Wd C H12 l pl dl m ql el pa r ps ps pr ds es hs' ∧ Pen K H12 pn ∧ H12 N = some (.lst (xs.map V.str)) ∧ H12 q = some (.lst (qs.map fun x => V.ref x.1)) ∧ (∀ x ∈ qs, DdAt H12 x.1 x.2 ∧ x.2.nm ∈ xs) ∧ (∀ x ∈ alls l pl dl m ql el pa r hs', x ≠ q) ∧ H12 = H15 :=
            ⟨pl', dl', H15, W15, hp15, k15.get hN14 nN3, k15.get hq14 nq3, fun x hx => ⟨((((hdd11 x hx).1.kp k12).kp k13).kp k14).kp k15, (hdd11 x hx).2⟩, hnq15, rfl⟩
          subst hH
          clear k12 k13 k14 k15 e12 e13 e14
          walk_at "go"
          refine ⟨pn, l, pl, dl, q, ps, pr, ds, es0, qs, rfl, hp12, W12.L, hq12, ni2 (hnq12 pl (by simp [alls])).symm (hnq12 dl (by simp [alls])).symm, fun x hx => ⟨(hdd12 x hx).1, (hg _ (hdd12 x hx).2).ok.ok⟩, by omega, by omega, by omega, g7.nd, hrh.runs, fun es1 H13 hr1 k13 hp13 L13 => ?_⟩
          obtain ⟨⟨dx12, i12⟩, a12, b12, _⟩ := id W12.L
          have W13 := W12.one hp12 (k13.mono (by simp)) (.inl ⟨rfl, rfl⟩) L13
          have hq13 : H13 q = some (.lst (qs.map fun x => V.ref x.1)) := k13.get hq12 (ni3 hqp (hnq12 pl (by simp [alls])).symm (hnq12 dl (by simp [alls])).symm)
          have hN13 : H13 N = some (.lst (xs.map V.str)) := k13.get hN12 (ni3 hNp (ne_SR hN12 (by omega) (by rw [a12, refs_map])) (ne_SR hN12 (by omega) (by rw [b12, refs_map (fun e : Dn => e.a)])))
          have hdd13 : ∀ x ∈ qs, DdAt H13 x.1 x.2 := fun x hx => (hdd12 x hx).1.kp k13
          walk_at "go"
          refine k_forL (fun j σ H' => ∃ (v10 : Option V) (psj : List Pc) (esj : List Dn), σ = [some (.ref a), some (.ref pn), some (.ref N), some (.ref l), some (.ref m), some (.ref r), some (.ref pa), some (.int (0 + (i : Int))), some (.ref q), v9, v10] ∧ Runs ps ((qs.map (·.2)).take j) psj esj ∧ Wd C H' l pl dl m ql el pa r pr psj pr (ds ++ es1) (es ++ esj) hs' ∧ Pen K H' pn ∧ H' N = some (.lst (xs.map V.str)) ∧ H' q = some (.lst (qs.map fun x => V.ref x.1)) ∧ ∀ x ∈ qs, DdAt H' x.1 x.2)
            ⟨_, ps, [], rfl, .nil ps, by rw [List.append_nil]; exact W13, hp13, hN13, hq13, hdd13⟩ (fun j σ H' _ ⟨_, _, _, _, _, _, _, _, hq', _⟩ => SqL.of hq') ?_ ?_
          · rintro j x σ H14 hx ⟨v10', psj, esj, rfl, hrj, W14, hp14, hN14, hq14, hdd14⟩
            obtain ⟨c, hc, rfl⟩ := Option.map_eq_some_iff.mp (List.getElem?_map .. ▸ hx)
            have hjq : j < qs.length := (List.getElem?_eq_some_iff.mp hc).1
            have hcj : (qs.map (·.2))[j]? = some c.2 := by rw [List.getElem?_map, hc]; rfl
            have hlj := hrj.len
            rw [List.length_take, List.length_map] at hlj
            walk_at "go"
            refine ⟨m, ql, el, c.1, c.2, psj, es ++ esj, rfl, W14.M, hdd14 c (List.mem_of_getElem? hc), by omega, by rw [List.length_append]; omega, fun rf h => (hrh.runs.noRef g7.nd hrj hcj h).elim, fun qs2 e H15 st k15 L15 => ?_⟩
            obtain ⟨_, a14, b14, _⟩ := id W14.M
            have W15 := W14.two k15 L15
            exact ⟨_, qs2, esj ++ [e], rfl, by rw [List.take_succ, hcj]; exact hrj.snoc st, by rw [← List.append_assoc]; exact W15, Lk.pen hp14 W14.M k15, k15.get hN14 (ni2 (ne_SR hN14 (by omega) (by rw [a14, refs_map])) (ne_SR hN14 (by omega) (by rw [b14, refs_map (fun e : Dn => e.a)]))), k15.get hq14 (ni2 (hnq12 ql (by simp [alls])).symm (hnq12 el (by simp [alls])).symm), fun x hx => (hdd14 x hx).kp k15⟩
          rintro σ H14 ⟨v10', psj, esj, rfl, hrj, W14, hp14, hN14, hq14, hdd14⟩
          rw [List.length_map, ← List.length_map (f := fun x : Addr × Dd => x.2), List.take_length] at hrj
          have hpj : psj = pr := (Runs.uniq g7.nd hrj hrh.runs).1
          subst hpj
          obtain ⟨i1, r1⟩ := RH.of hr1
          obtain ⟨_, hi1, hk1⟩ := r1.uniq g7.nd hrh
          obtain ⟨i2, r2⟩ := RH.of hrj
          obtain ⟨_, hi2, hk2⟩ := r2.uniq g7.nd hrh
          have I14 : Inv8 K C xs H14 pn N l pl dl m ql el pa r psj (ds ++ es1) (es ++ esj) hs' := ⟨W14, hp14, hN14, by rw [hhs, ← hi1]; exact r1.chain c1, by rw [hhs, ← hi2]; exact r2.chain c2, by rw [List.map_append, List.map_append, kk, hk1, hk2], g10, gh10⟩
          have hz' : hs'.length ≤ 8 * (i + 1) := by omega
          obtain ⟨⟨dx14, i14⟩, _⟩ := id W14.L
          obtain ⟨⟨dy14, j14⟩, _⟩ := id W14.M
          have eq1 := eqv_pcs W14.L.pok
          walk_at "go"
          refine x_eqO i14 j14 ⟨l, pl, dl, m, ql, el, psj, psj, _, _, rfl, W14.L, W14.M, true, by rw [eq1], true, rfl, ?_⟩
          walk_at "go"
          refine ⟨l, pl, dl, r, psj, _, rfl, W14.L, W14.R, g10.nd, fun c hc => (hg _ (g10.sub c hc)).ok, by omega, fun H15 k15 => ?_⟩
          have I15 := I14.kp0 k15
          walk_at "go"
          refine ⟨pn, 3, rfl, I15.pen, by decide, by decide, fun z3 H16 z4 z5 k16 hp16 => ?_⟩
          have I16 := I15.kpn k16 hp16
          walk_at "go"
          refine x_kR1 (by omega) (by omega) ?_
          refine k_forR (fun j σ H' => ∃ (r : Addr) (ps : List Pc) (ds es : List Dn) (hs : List (Addr × List Pc)) (v9 v10 : Option V), σ = [some (.ref a), some (.ref pn), some (.ref N), some (.ref l), some (.ref m), some (.ref r), some (.ref pa), some (.int (0 + (i : Int))), some (.ref q), v9, v10] ∧ Inv8 K C xs H' pn N l pl dl m ql el pa r ps ds es hs ∧ hs.length ≤ 8 * (i + 1)) ⟨r, psj, _, _, hs', _, _, rfl, I16, hz'⟩ ?_ ?_
          · rintro j σ H17 hj ⟨r, pr, ds, es, hs, v9, v10, rfl, I17, hz17⟩
            obtain ⟨W17, hp17, hN17, c1, c2, kk, g17, gh17⟩ := I17
            obtain ⟨⟨dx17, i17⟩, _⟩ := id W17.L
            obtain ⟨⟨dy17, j17⟩, _⟩ := id W17.M
            have gle17 := g17.le
            walk_at "go"
            rcases c1.inv with ⟨rfl, rfl, h0⟩ | ⟨d1, e, h1, q1, rfl, h0, c1', u1⟩
            · have hs0 : hs = [] := List.map_eq_nil_iff.mp h0
              subst hs0
              have es0' : es = [] := List.eq_nil_of_length_eq_zero (by rw [c2.len]; rfl)
              subst es0'
              refine ⟨l, pl, dl, [], [], rfl, W17.L, by decide, fun _ H18 k18 => ?_, fun es' e' h => absurd h (by simp)⟩
              have W18 := W17.kp0 k18
              have j18 : H18 m = some (.ins C dy17 (lf ql el)) := k18.get j17 List.not_mem_nil
              walk_at "go"
              refine ⟨m, ql, el, [], [], rfl, W18.M, by decide, fun _ H19 k19 => ?_, fun es' e' h => absurd h (by simp)⟩
              have W19 := W18.kp0 k19
              have i19 : H19 l = some (.ins C dx17 (lf pl dl)) := k19.get (k18.get i17 List.not_mem_nil) List.not_mem_nil
              refine x_neV rfl ?_
              walk_at "go"
              refine k_is rfl ?_
              walk_at "go"
              refine ⟨l, pl, dl, [], [], rfl, W19.L, by decide, fun p1 H20 k20 n20 e20 => ?_⟩
              have W20 := W19.kp0 k20
              have j20 : H20 m = some (.ins C dy17 (lf ql el)) := k20.get (k19.get j18 List.not_mem_nil) List.not_mem_nil
              walk_at "go"
              refine ⟨m, ql, el, [], [], rfl, W20.M, by decide, fun p2 H21 k21 n21 e21 => ?_⟩
              have W21 := W20.kp0 k21
              refine names_eq g17 hg (k21.get e20 List.not_mem_nil) e21 ?_
              walk_at "go"
              rename_i p3 H22 k22 n22 e22
              have W22 := W21.kp0 k22
              refine past_ne W22.past W22.hr e22 ?_
              rw [show (!([] : List (Addr × List Pc)).isEmpty) = false from rfl]
              walk_at "go"
              exact ⟨r, [], [], [], [], _, _, rfl, ⟨W22, ((((hp17.kp0 k18).kp0 k19).kp0 k20).kp0 k21).kp0 k22, k22.get (k21.get (k20.get (k19.get (k18.get hN17 List.not_mem_nil) List.not_mem_nil) List.not_mem_nil) List.not_mem_nil) List.not_mem_nil, c1, c2, kk, g17, gh17⟩, hz17⟩
            · rcases c2.inv with ⟨_, _, h0'⟩ | ⟨e1, f, h1', q1', rfl, h0', c2', u2⟩
              · rw [h0] at h0'
                exact absurd h0' (by simp)
              obtain ⟨rfl, hq1⟩ := List.append_inj' (h0.symm.trans h0') rfl
              cases hq1
              obtain ⟨hsA, y, rfl⟩ : ∃ hsA y, hs = hsA ++ [y] := by
                rcases List.eq_nil_or_concat hs with z | ⟨L0, b0, z⟩
                · rw [z] at h0
                  exact absurd h0 (by simp)
                · exact ⟨L0, b0, by rw [z, List.concat_eq_append]⟩
              rw [List.map_append] at h0
              obtain ⟨rfl, hq2⟩ := List.append_inj' h0 rfl
              cases hq2
              rw [List.map_append, List.map_append] at kk
              obtain ⟨kk', hk⟩ := List.append_inj' kk rfl
              have hk' : e.k = f.k := by
                simp only [List.map_cons, List.map_nil, List.cons.injEq, and_true] at hk
                exact hk
              obtain ⟨_, a17, b17, _⟩ := id W17.L
              obtain ⟨_, a17', b17', _⟩ := id W17.M
              have gy := gh17 y (List.mem_append_right _ (List.mem_singleton.mpr rfl))
              have gyl := gy.le
              refine ⟨l, pl, dl, pr, d1 ++ [e], rfl, W17.L, by omega, fun h => absurd h (by simp), fun es' e' h => ?_⟩
              obtain ⟨rfl, h2⟩ := List.append_inj' h rfl
              cases h2
              refine ⟨y.2, u1, fun H18 k18 L18 => ?_⟩
              have W18 := W17.one hp17 (k18.mono (by simp)) (.inl ⟨rfl, rfl⟩) L18
              have hp18 : Pen K H18 pn := Lk.pen hp17 W17.L k18
              have hN18 : H18 N = some (.lst (xs.map V.str)) := k18.get hN17 (ni2 (ne_SR hN17 (by omega) (by rw [a17, refs_map])) (ne_SR hN17 (by omega) (by rw [b17, refs_map (fun e : Dn => e.a)])))
              obtain ⟨⟨dy18, j18⟩, _⟩ := id W18.M
              walk_at "go"
              refine ⟨m, ql, el, pr, e1 ++ [f], rfl, W18.M, by omega, fun h => absurd h (by simp), fun es' e' h => ?_⟩
              obtain ⟨rfl, h2⟩ := List.append_inj' h rfl
              cases h2
              refine ⟨y.2, u2, fun H19 k19 L19 => ?_⟩
              obtain ⟨_, a18', b18', _⟩ := id W18.M
              have W19 := W18.two k19 L19
              have hp19 : Pen K H19 pn := Lk.pen hp18 W18.M k19
              have hN19 : H19 N = some (.lst (xs.map V.str)) := k19.get hN18 (ni2 (ne_SR hN18 (by omega) (by rw [a18', refs_map])) (ne_SR hN18 (by omega) (by rw [b18', refs_map (fun e : Dn => e.a)])))
              obtain ⟨⟨dx19, i19⟩, _⟩ := id W19.L
              walk_at "go"
              refine k_is (by rw [hk']) ?_
              walk_at "go"
              refine ⟨l, pl, dl, y.2, d1, rfl, W19.L, by omega, fun p1 H20 k20 n20 e20 => ?_⟩
              have W20 := W19.kp0 k20
              obtain ⟨⟨dy20, j20⟩, _⟩ := id W20.M
              walk_at "go"
              refine ⟨m, ql, el, y.2, e1, rfl, W20.M, by omega, fun p2 H21 k21 n21 e21 => ?_⟩
              have W21 := W20.kp0 k21
              refine names_eq gy hg (k21.get e20 List.not_mem_nil) e21 ?_
              walk_at "go"
              rename_i p3 H22 k22 n22 e22
              have W22 := W21.kp0 k22
              refine past_ne W22.past W22.hr e22 ?_
              have hemp : (!(hsA ++ [y]).isEmpty) = true := by cases hsA <;> rfl
              have hpast22 := W22.past
              have hp22 := (((hp19.kp0 k20).kp0 k21).kp0 k22)
              have hN22 : H22 N = some (.lst (xs.map V.str)) := k22.get (k21.get (k20.get hN19 List.not_mem_nil) List.not_mem_nil) List.not_mem_nil
              rw [hemp]
              walk_at "go"
              refine x_pop (y := .ref y.1) hpast22 (by simp) fun H23 k23 e23 => ?_
              rw [List.map_append, List.map_singleton, List.dropLast_concat] at e23
              have W23 := W22.pop k23 e23
              walk_at "go"
              refine ⟨y.1, y.2, d1, e1, hsA, _, _, rfl, ⟨W23, hp22.kp k23 (ni1 (hp22.neP (f := fun x : Addr × List Pc => x.1) hpast22).symm) (one_lst hpast22), k23.get hN22 (ni1 (ne_SR hN22 (by omega) (by rw [hpast22, refs_map (fun x : Addr × List Pc => x.1)]))), c1', c2', kk', gy, fun x hx => gh17 x (List.mem_append_left _ hx)⟩, ?_⟩
              rw [List.length_append] at hz17
              omega
          rintro σ H17 ⟨r, pr, ds, es, hs, v9, v10, rfl, I17, hz17⟩
          have g17 := I17.g.le
          walk_at "go"
          refine ⟨l, pl, dl, r, pr, _, rfl, I17.W.L, I17.W.R, I17.g.nd, fun c hc => (hg _ (I17.g.sub c hc)).ok, by omega, fun H18 k18 => ?_⟩
          have I18 := I17.kp0 k18
          walk_at "go"
          refine ⟨m, ql, el, r, pr, _, rfl, I18.W.M, I18.W.R, I18.g.nd, fun c hc => (hg _ (I18.g.sub c hc)).ok, by omega, fun H19 k19 => ?_⟩
          walk_at "go"
          exact ⟨pl, dl, r, pr, ds, es, hs, _, _, _, _, rfl, I18.kp0 k19, hz17⟩
      · obtain ⟨H12, W12, hp12, hN12, hq12, hdd12, hnq12, hH⟩ : ∃ H12, Wd C H12 l pl dl m ql el pa r ps ps pr ds es hs' ∧ Pen K H12 pn ∧ H12 N = some (.lst (xs.map V.str)) ∧ H12 q = some (.lst (qs.map fun x => V.ref x.1)) ∧ (∀ x ∈ qs, DdAt H12 x.1 x.2 ∧ x.2.nm ∈ xs) ∧ (∀ x ∈ alls l pl dl m ql el pa r hs', x ≠ q) ∧ H12 = H11 :=
          ⟨H11, W11, hp11, hN11, hq11, hdd11, hnq, rfl⟩
        subst hH
        walk_at "go"
        refine ⟨pn, l, pl, dl, q, ps, pr, ds, es0, qs, rfl, hp12, W12.L, hq12, ni2 (hnq12 pl (by simp [alls])).symm (hnq12 dl (by simp [alls])).symm, fun x hx => ⟨(hdd12 x hx).1, (hg _ (hdd12 x hx).2).ok.ok⟩, by omega, by omega, by omega, g7.nd, hrh.runs, fun es1 H13 hr1 k13 hp13 L13 => ?_⟩
        obtain ⟨⟨dx12, i12⟩, a12, b12, _⟩ := id W12.L
        have W13 := W12.one hp12 (k13.mono (by simp)) (.inl ⟨rfl, rfl⟩) L13
        have hq13 : H13 q = some (.lst (qs.map fun x => V.ref x.1)) := k13.get hq12 (ni3 hqp (hnq12 pl (by simp [alls])).symm (hnq12 dl (by simp [alls])).symm)
        have hN13 : H13 N = some (.lst (xs.map V.str)) := k13.get hN12 (ni3 hNp (ne_SR hN12 (by omega) (by rw [a12, refs_map])) (ne_SR hN12 (by omega) (by rw [b12, refs_map (fun e : Dn => e.a)])))
        have hdd13 : ∀ x ∈ qs, DdAt H13 x.1 x.2 := fun x hx => (hdd12 x hx).1.kp k13
        walk_at "go"
        refine k_forL (fun j σ H' => ∃ (v10 : Option V) (psj : List Pc) (esj : List Dn), σ = [some (.ref a), some (.ref pn), some (.ref N), some (.ref l), some (.ref m), some (.ref r), some (.ref pa), some (.int (0 + (i : Int))), some (.ref q), v9, v10] ∧ Runs ps ((qs.map (·.2)).take j) psj esj ∧ Wd C H' l pl dl m ql el pa r pr psj pr (ds ++ es1) (es ++ esj) hs' ∧ Pen K H' pn ∧ H' N = some (.lst (xs.map V.str)) ∧ H' q = some (.lst (qs.map fun x => V.ref x.1)) ∧ ∀ x ∈ qs, DdAt H' x.1 x.2)
          ⟨_, ps, [], rfl, .nil ps, by rw [List.append_nil]; exact W13, hp13, hN13, hq13, hdd13⟩ (fun j σ H' _ ⟨_, _, _, _, _, _, _, _, hq', _⟩ => SqL.of hq') ?_ ?_
        · rintro j x σ H14 hx ⟨v10', psj, esj, rfl, hrj, W14, hp14, hN14, hq14, hdd14⟩
          obtain ⟨c, hc, rfl⟩ := Option.map_eq_some_iff.mp (List.getElem?_map .. ▸ hx)
          have hjq : j < qs.length := (List.getElem?_eq_some_iff.mp hc).1
          have hcj : (qs.map (·.2))[j]? = some c.2 := by rw [List.getElem?_map, hc]; rfl
          have hlj := hrj.len
          rw [List.length_take, List.length_map] at hlj
          walk_at "go"
          refine ⟨m, ql, el, c.1, c.2, psj, es ++ esj, rfl, W14.M, hdd14 c (List.mem_of_getElem? hc), by omega, by rw [List.length_append]; omega, fun rf h => (hrh.runs.noRef g7.nd hrj hcj h).elim, fun qs2 e H15 st k15 L15 => ?_⟩
          obtain ⟨_, a14, b14, _⟩ := id W14.M
          have W15 := W14.two k15 L15
          exact ⟨_, qs2, esj ++ [e], rfl, by rw [List.take_succ, hcj]; exact hrj.snoc st, by rw [← List.append_assoc]; exact W15, Lk.pen hp14 W14.M k15, k15.get hN14 (ni2 (ne_SR hN14 (by omega) (by rw [a14, refs_map])) (ne_SR hN14 (by omega) (by rw [b14, refs_map (fun e : Dn => e.a)]))), k15.get hq14 (ni2 (hnq12 ql (by simp [alls])).symm (hnq12 el (by simp [alls])).symm), fun x hx => (hdd14 x hx).kp k15⟩
        rintro σ H14 ⟨v10', psj, esj, rfl, hrj, W14, hp14, hN14, hq14, hdd14⟩
        rw [List.length_map, ← List.length_map (f := fun x : Addr × Dd => x.2), List.take_length] at hrj
        have hpj : psj = pr := (Runs.uniq g7.nd hrj hrh.runs).1
        subst hpj
        obtain ⟨i1, r1⟩ := RH.of hr1
        obtain ⟨_, hi1, hk1⟩ := r1.uniq g7.nd hrh
        obtain ⟨i2, r2⟩ := RH.of hrj
        obtain ⟨_, hi2, hk2⟩ := r2.uniq g7.nd hrh
        have I14 : Inv8 K C xs H14 pn N l pl dl m ql el pa r psj (ds ++ es1) (es ++ esj) hs' := ⟨W14, hp14, hN14, by rw [hhs, ← hi1]; exact r1.chain c1, by rw [hhs, ← hi2]; exact r2.chain c2, by rw [List.map_append, List.map_append, kk, hk1, hk2], g10, gh10⟩
        have hz' : hs'.length ≤ 8 * (i + 1) := by omega
        obtain ⟨⟨dx14, i14⟩, _⟩ := id W14.L
        obtain ⟨⟨dy14, j14⟩, _⟩ := id W14.M
        have eq1 := eqv_pcs W14.L.pok
        walk_at "go"
        refine x_eqO i14 j14 ⟨l, pl, dl, m, ql, el, psj, psj, _, _, rfl, W14.L, W14.M, true, by rw [eq1], true, rfl, ?_⟩
        walk_at "go"
        refine ⟨l, pl, dl, r, psj, _, rfl, W14.L, W14.R, g10.nd, fun c hc => (hg _ (g10.sub c hc)).ok, by omega, fun H15 k15 => ?_⟩
        have I15 := I14.kp0 k15
        walk_at "go"
        refine ⟨pn, 3, rfl, I15.pen, by decide, by decide, fun z3 H16 z4 z5 k16 hp16 => ?_⟩
        have I16 := I15.kpn k16 hp16
        walk_at "go"
        refine x_kR1 (by omega) (by omega) ?_
        refine k_forR (fun j σ H' => ∃ (r : Addr) (ps : List Pc) (ds es : List Dn) (hs : List (Addr × List Pc)) (v9 v10 : Option V), σ = [some (.ref a), some (.ref pn), some (.ref N), some (.ref l), some (.ref m), some (.ref r), some (.ref pa), some (.int (0 + (i : Int))), some (.ref q), v9, v10] ∧ Inv8 K C xs H' pn N l pl dl m ql el pa r ps ds es hs ∧ hs.length ≤ 8 * (i + 1)) ⟨r, psj, _, _, hs', _, _, rfl, I16, hz'⟩ ?_ ?_
        · rintro j σ H17 hj ⟨r, pr, ds, es, hs, v9, v10, rfl, I17, hz17⟩
          obtain ⟨W17, hp17, hN17, c1, c2, kk, g17, gh17⟩ := I17
          obtain ⟨⟨dx17, i17⟩, _⟩ := id W17.L
          obtain ⟨⟨dy17, j17⟩, _⟩ := id W17.M
          have gle17 := g17.le
          walk_at "go"
          rcases c1.inv with ⟨rfl, rfl, h0⟩ | ⟨d1, e, h1, q1, rfl, h0, c1', u1⟩
          · have hs0 : hs = [] := List.map_eq_nil_iff.mp h0
            subst hs0
            have es0' : es = [] := List.eq_nil_of_length_eq_zero (by rw [c2.len]; rfl)
            subst es0'
            refine ⟨l, pl, dl, [], [], rfl, W17.L, by decide, fun _ H18 k18 => ?_, fun es' e' h => absurd h (by simp)⟩
            have W18 := W17.kp0 k18
            have j18 : H18 m = some (.ins C dy17 (lf ql el)) := k18.get j17 List.not_mem_nil
            walk_at "go"
            refine ⟨m, ql, el, [], [], rfl, W18.M, by decide, fun _ H19 k19 => ?_, fun es' e' h => absurd h (by simp)⟩
            have W19 := W18.kp0 k19
            have i19 : H19 l = some (.ins C dx17 (lf pl dl)) := k19.get (k18.get i17 List.not_mem_nil) List.not_mem_nil
            refine x_neV rfl ?_
            walk_at "go"
            refine k_is rfl ?_
            walk_at "go"
            refine ⟨l, pl, dl, [], [], rfl, W19.L, by decide, fun p1 H20 k20 n20 e20 => ?_⟩
            have W20 := W19.kp0 k20
            have j20 : H20 m = some (.ins C dy17 (lf ql el)) := k20.get (k19.get j18 List.not_mem_nil) List.not_mem_nil
            walk_at "go"
            refine ⟨m, ql, el, [], [], rfl, W20.M, by decide, fun p2 H21 k21 n21 e21 => ?_⟩
            have W21 := W20.kp0 k21
            refine names_eq g17 hg (k21.get e20 List.not_mem_nil) e21 ?_
            walk_at "go"
            rename_i p3 H22 k22 n22 e22
            have W22 := W21.kp0 k22
            refine past_ne W22.past W22.hr e22 ?_
            rw [show (!([] : List (Addr × List Pc)).isEmpty) = false from rfl]
            walk_at "go"
            exact ⟨r, [], [], [], [], _, _, rfl, ⟨W22, ((((hp17.kp0 k18).kp0 k19).kp0 k20).kp0 k21).kp0 k22, k22.get (k21.get (k20.get (k19.get (k18.get hN17 List.not_mem_nil) List.not_mem_nil) List.not_mem_nil) List.not_mem_nil) List.not_mem_nil, c1, c2, kk, g17, gh17⟩, hz17⟩
          · rcases c2.inv with ⟨_, _, h0'⟩ | ⟨e1, f, h1', q1', rfl, h0', c2', u2⟩
            · rw [h0] at h0'
              exact absurd h0' (by simp)
            obtain ⟨rfl, hq1⟩ := List.append_inj' (h0.symm.trans h0') rfl
            cases hq1
            obtain ⟨hsA, y, rfl⟩ : ∃ hsA y, hs = hsA ++ [y] := by
              rcases List.eq_nil_or_concat hs with z | ⟨L0, b0, z⟩
              · rw [z] at h0
                exact absurd h0 (by simp)
              · exact ⟨L0, b0, by rw [z, List.concat_eq_append]⟩
            rw [List.map_append] at h0
            obtain ⟨rfl, hq2⟩ := List.append_inj' h0 rfl
            cases hq2
            rw [List.map_append, List.map_append] at kk
            obtain ⟨kk', hk⟩ := List.append_inj' kk rfl
            have hk' : e.k = f.k := by
              simp only [List.map_cons, List.map_nil, List.cons.injEq, and_true] at hk
              exact hk
            obtain ⟨_, a17, b17, _⟩ := id W17.L
            obtain ⟨_, a17', b17', _⟩ := id W17.M
            have gy := gh17 y (List.mem_append_right _ (List.mem_singleton.mpr rfl))
            have gyl := gy.le
            refine ⟨l, pl, dl, pr, d1 ++ [e], rfl, W17.L, by omega, fun h => absurd h (by simp), fun es' e' h => ?_⟩
            obtain ⟨rfl, h2⟩ := List.append_inj' h rfl
            cases h2
            refine ⟨y.2, u1, fun H18 k18 L18 => ?_⟩
            have W18 := W17.one hp17 (k18.mono (by simp)) (.inl ⟨rfl, rfl⟩) L18
            have hp18 : Pen K H18 pn := Lk.pen hp17 W17.L k18
            have hN18 : H18 N = some (.lst (xs.map V.str)) := k18.get hN17 (ni2 (ne_SR hN17 (by omega) (by rw [a17, refs_map])) (ne_SR hN17 (by omega) (by rw [b17, refs_map (fun e : Dn => e.a)])))
            obtain ⟨⟨dy18, j18⟩, _⟩ := id W18.M
            walk_at "go"
            refine ⟨m, ql, el, pr, e1 ++ [f], rfl, W18.M, by omega, fun h => absurd h (by simp), fun es' e' h => ?_⟩
            obtain ⟨rfl, h2⟩ := List.append_inj' h rfl
            cases h2
            refine ⟨y.2, u2, fun H19 k19 L19 => ?_⟩
            obtain ⟨_, a18', b18', _⟩ := id W18.M
            have W19 := W18.two k19 L19
            have hp19 : Pen K H19 pn := Lk.pen hp18 W18.M k19
            have hN19 : H19 N = some (.lst (xs.map V.str)) := k19.get hN18 (ni2 (ne_SR hN18 (by omega) (by rw [a18', refs_map])) (ne_SR hN18 (by omega) (by rw [b18', refs_map (fun e : Dn => e.a)])))
            obtain ⟨⟨dx19, i19⟩, _⟩ := id W19.L
            walk_at "go"
            refine k_is (by rw [hk']) ?_
            walk_at "go"
            refine ⟨l, pl, dl, y.2, d1, rfl, W19.L, by omega, fun p1 H20 k20 n20 e20 => ?_⟩
            have W20 := W19.kp0 k20
            obtain ⟨⟨dy20, j20⟩, _⟩ := id W20.M
            walk_at "go"
            refine ⟨m, ql, el, y.2, e1, rfl, W20.M, by omega, fun p2 H21 k21 n21 e21 => ?_⟩
            have W21 := W20.kp0 k21
            refine names_eq gy hg (k21.get e20 List.not_mem_nil) e21 ?_
            walk_at "go"
            rename_i p3 H22 k22 n22 e22
            have W22 := W21.kp0 k22
            refine past_ne W22.past W22.hr e22 ?_
            have hemp : (!(hsA ++ [y]).isEmpty) = true := by cases hsA <;> rfl
            have hpast22 := W22.past
            have hp22 := (((hp19.kp0 k20).kp0 k21).kp0 k22)
            have hN22 : H22 N = some (.lst (xs.map V.str)) := k22.get (k21.get (k20.get hN19 List.not_mem_nil) List.not_mem_nil) List.not_mem_nil
            rw [hemp]
            walk_at "go"
            refine x_pop (y := .ref y.1) hpast22 (by simp) fun H23 k23 e23 => ?_
            rw [List.map_append, List.map_singleton, List.dropLast_concat] at e23
            have W23 := W22.pop k23 e23
            walk_at "go"
            refine ⟨y.1, y.2, d1, e1, hsA, _, _, rfl, ⟨W23, hp22.kp k23 (ni1 (hp22.neP (f := fun x : Addr × List Pc => x.1) hpast22).symm) (one_lst hpast22), k23.get hN22 (ni1 (ne_SR hN22 (by omega) (by rw [hpast22, refs_map (fun x : Addr × List Pc => x.1)]))), c1', c2', kk', gy, fun x hx => gh17 x (List.mem_append_left _ hx)⟩, ?_⟩
            rw [List.length_append] at hz17
            omega
        rintro σ H17 ⟨r, pr, ds, es, hs, v9, v10, rfl, I17, hz17⟩
        have g17 := I17.g.le
        walk_at "go"
        refine ⟨l, pl, dl, r, pr, _, rfl, I17.W.L, I17.W.R, I17.g.nd, fun c hc => (hg _ (I17.g.sub c hc)).ok, by omega, fun H18 k18 => ?_⟩
        have I18 := I17.kp0 k18
        walk_at "go"
        refine ⟨m, ql, el, r, pr, _, rfl, I18.W.M, I18.W.R, I18.g.nd, fun c hc => (hg _ (I18.g.sub c hc)).ok, by omega, fun H19 k19 => ?_⟩
        walk_at "go"
        exact ⟨pl, dl, r, pr, ds, es, hs, _, _, _, _, rfl, I18.kp0 k19, hz17⟩
  · rintro σ H7 ⟨pl, dl, r, ps, ds, es, hs, v7, v8, v9, v10, rfl, I, hz⟩
    walk_at "go"
    exact k H7
end
end WM
set_option Elab.async false
set_option linter.all false
set_option maxRecDepth 100000
set_option maxHeartbeats 2000000
namespace WM
open PySem PySem.Spec PyProof.Rows L2
/-! ### where the defs stand -/
theorem at_fill {K : PySem.W.Frag} {h : Heap} {mg : Str → Option Value} {f : Addr} {oc kV dc pm cd ct : Value} {od an : Option Addr} {sl : Array (Option Value)} (X : K.In h) (G : h.Ns mainGlobals mg) (a : PySem.W.nsIn K mainGlobals "_law_fill" = some (some (.ref f)))
    (l : K.lookup f = some ⟨oc, od, .func (PySem.W.fnOf "_law_fill" "_law_fill" (defArgs s_fill) (defBody s_fill) (defScope s_fill) .none kV dc pm an cd ct), sl⟩) (c : PySem.W.codeIn K cd "_law_fill" = true) (k : PySem.W.keepIn K (.ref f) = true) : DefAt K mg "_law_fill" s_fill ["_law_cell", "_law_at"] :=
  ⟨f, _, fun_mk (st := s_fill) l c k, PySem.W.mg_of X G a, (fun_mk (st := s_fill) l c k).binds (ps := ["_law_cell", "_law_at"]) fun _ _ _ _ _ _ us hl => match us, hl with | [_, _], _ => rfl⟩
theorem at_next {K : PySem.W.Frag} {h : Heap} {mg : Str → Option Value} {f : Addr} {oc kV dc pm cd ct : Value} {od an : Option Addr} {sl : Array (Option Value)} (X : K.In h) (G : h.Ns mainGlobals mg) (a : PySem.W.nsIn K mainGlobals "_law_next" = some (some (.ref f)))
    (l : K.lookup f = some ⟨oc, od, .func (PySem.W.fnOf "_law_next" "_law_next" (defArgs s_next) (defBody s_next) (defScope s_next) .none kV dc pm an cd ct), sl⟩) (c : PySem.W.codeIn K cd "_law_next" = true) (k : PySem.W.keepIn K (.ref f) = true) : DefAt K mg "_law_next" s_next ["_law_pen", "_law_many"] :=
  ⟨f, _, fun_mk (st := s_next) l c k, PySem.W.mg_of X G a, (fun_mk (st := s_next) l c k).binds (ps := ["_law_pen", "_law_many"]) fun _ _ _ _ _ _ us hl => match us, hl with | [_, _], _ => rfl⟩
theorem at_e_piece {K : PySem.W.Frag} {h : Heap} {mg : Str → Option Value} {f : Addr} {oc kV dc pm cd ct : Value} {od an : Option Addr} {sl : Array (Option Value)} (X : K.In h) (G : h.Ns mainGlobals mg) (a : PySem.W.nsIn K mainGlobals "_law_e_piece" = some (some (.ref f)))
    (l : K.lookup f = some ⟨oc, od, .func (PySem.W.fnOf "_law_e_piece" "_law_e_piece" (defArgs s_e_piece) (defBody s_e_piece) (defScope s_e_piece) .none kV dc pm an cd ct), sl⟩) (c : PySem.W.codeIn K cd "_law_e_piece" = true) (k : PySem.W.keepIn K (.ref f) = true) : DefAt K mg "_law_e_piece" s_e_piece ["pen", "name"] :=
  ⟨f, _, fun_mk (st := s_e_piece) l c k, PySem.W.mg_of X G a, (fun_mk (st := s_e_piece) l c k).binds (ps := ["pen", "name"]) fun _ _ _ _ _ _ us hl => match us, hl with | [_, _], _ => rfl⟩
theorem at_e_names {K : PySem.W.Frag} {h : Heap} {mg : Str → Option Value} {f : Addr} {oc kV dc pm cd ct : Value} {od an : Option Addr} {sl : Array (Option Value)} (X : K.In h) (G : h.Ns mainGlobals mg) (a : PySem.W.nsIn K mainGlobals "_law_e_names" = some (some (.ref f)))
    (l : K.lookup f = some ⟨oc, od, .func (PySem.W.fnOf "_law_e_names" "_law_e_names" (defArgs s_e_names) (defBody s_e_names) (defScope s_e_names) .none kV dc pm an cd ct), sl⟩) (c : PySem.W.codeIn K cd "_law_e_names" = true) (k : PySem.W.keepIn K (.ref f) = true) : DefAt K mg "_law_e_names" s_e_names ["pen"] :=
  ⟨f, _, fun_mk (st := s_e_names) l c k, PySem.W.mg_of X G a, (fun_mk (st := s_e_names) l c k).binds (ps := ["pen"]) fun _ _ _ _ _ _ us hl => match us, hl with | [_], _ => rfl⟩
theorem at_e_spot {K : PySem.W.Frag} {h : Heap} {mg : Str → Option Value} {f : Addr} {oc kV dc pm cd ct : Value} {od an : Option Addr} {sl : Array (Option Value)} (X : K.In h) (G : h.Ns mainGlobals mg) (a : PySem.W.nsIn K mainGlobals "_law_e_spot" = some (some (.ref f)))
    (l : K.lookup f = some ⟨oc, od, .func (PySem.W.fnOf "_law_e_spot" "_law_e_spot" (defArgs s_e_spot) (defBody s_e_spot) (defScope s_e_spot) .none kV dc pm an cd ct), sl⟩) (c : PySem.W.codeIn K cd "_law_e_spot" = true) (k : PySem.W.keepIn K (.ref f) = true) : DefAt K mg "_law_e_spot" s_e_spot ["rows", "name"] :=
  ⟨f, _, fun_mk (st := s_e_spot) l c k, PySem.W.mg_of X G a, (fun_mk (st := s_e_spot) l c k).binds (ps := ["rows", "name"]) fun _ _ _ _ _ _ us hl => match us, hl with | [_, _], _ => rfl⟩
theorem at_e_deed {K : PySem.W.Frag} {h : Heap} {mg : Str → Option Value} {f : Addr} {oc kV dc pm cd ct : Value} {od an : Option Addr} {sl : Array (Option Value)} (X : K.In h) (G : h.Ns mainGlobals mg) (a : PySem.W.nsIn K mainGlobals "_law_e_deed" = some (some (.ref f)))
    (l : K.lookup f = some ⟨oc, od, .func (PySem.W.fnOf "_law_e_deed" "_law_e_deed" (defArgs s_e_deed) (defBody s_e_deed) (defScope s_e_deed) .none kV dc pm an cd ct), sl⟩) (c : PySem.W.codeIn K cd "_law_e_deed" = true) (k : PySem.W.keepIn K (.ref f) = true) : DefAt K mg "_law_e_deed" s_e_deed ["pen", "names", "rows"] :=
  ⟨f, _, fun_mk (st := s_e_deed) l c k, PySem.W.mg_of X G a, (fun_mk (st := s_e_deed) l c k).binds (ps := ["pen", "names", "rows"]) fun _ _ _ _ _ _ us hl => match us, hl with | [_, _, _], _ => rfl⟩
theorem at_e_after {K : PySem.W.Frag} {h : Heap} {mg : Str → Option Value} {f : Addr} {oc kV dc pm cd ct : Value} {od an : Option Addr} {sl : Array (Option Value)} (X : K.In h) (G : h.Ns mainGlobals mg) (a : PySem.W.nsIn K mainGlobals "_law_e_after" = some (some (.ref f)))
    (l : K.lookup f = some ⟨oc, od, .func (PySem.W.fnOf "_law_e_after" "_law_e_after" (defArgs s_e_after) (defBody s_e_after) (defScope s_e_after) .none kV dc pm an cd ct), sl⟩) (c : PySem.W.codeIn K cd "_law_e_after" = true) (k : PySem.W.keepIn K (.ref f) = true) : DefAt K mg "_law_e_after" s_e_after ["rows", "deed"] :=
  ⟨f, _, fun_mk (st := s_e_after) l c k, PySem.W.mg_of X G a, (fun_mk (st := s_e_after) l c k).binds (ps := ["rows", "deed"]) fun _ _ _ _ _ _ us hl => match us, hl with | [_, _], _ => rfl⟩
theorem at_e_do {K : PySem.W.Frag} {h : Heap} {mg : Str → Option Value} {f : Addr} {oc kV dc pm cd ct : Value} {od an : Option Addr} {sl : Array (Option Value)} (X : K.In h) (G : h.Ns mainGlobals mg) (a : PySem.W.nsIn K mainGlobals "_law_e_do" = some (some (.ref f)))
    (l : K.lookup f = some ⟨oc, od, .func (PySem.W.fnOf "_law_e_do" "_law_e_do" (defArgs s_e_do) (defBody s_e_do) (defScope s_e_do) .none kV dc pm an cd ct), sl⟩) (c : PySem.W.codeIn K cd "_law_e_do" = true) (k : PySem.W.keepIn K (.ref f) = true) : DefAt K mg "_law_e_do" s_e_do ["linker", "deed"] :=
  ⟨f, _, fun_mk (st := s_e_do) l c k, PySem.W.mg_of X G a, (fun_mk (st := s_e_do) l c k).binds (ps := ["linker", "deed"]) fun _ _ _ _ _ _ us hl => match us, hl with | [_, _], _ => rfl⟩
theorem at_e_like {K : PySem.W.Frag} {h : Heap} {mg : Str → Option Value} {f : Addr} {oc kV dc pm cd ct : Value} {od an : Option Addr} {sl : Array (Option Value)} (X : K.In h) (G : h.Ns mainGlobals mg) (a : PySem.W.nsIn K mainGlobals "_law_e_like" = some (some (.ref f)))
    (l : K.lookup f = some ⟨oc, od, .func (PySem.W.fnOf "_law_e_like" "_law_e_like" (defArgs s_e_like) (defBody s_e_like) (defScope s_e_like) .none kV dc pm an cd ct), sl⟩) (c : PySem.W.codeIn K cd "_law_e_like" = true) (k : PySem.W.keepIn K (.ref f) = true) : DefAt K mg "_law_e_like" s_e_like ["linker", "rows"] :=
  ⟨f, _, fun_mk (st := s_e_like) l c k, PySem.W.mg_of X G a, (fun_mk (st := s_e_like) l c k).binds (ps := ["linker", "rows"]) fun _ _ _ _ _ _ us hl => match us, hl with | [_, _], _ => rfl⟩
theorem at_e_breaks {K : PySem.W.Frag} {h : Heap} {mg : Str → Option Value} {f : Addr} {oc kV dc pm cd ct : Value} {od an : Option Addr} {sl : Array (Option Value)} (X : K.In h) (G : h.Ns mainGlobals mg) (a : PySem.W.nsIn K mainGlobals "_law_e_breaks" = some (some (.ref f)))
    (l : K.lookup f = some ⟨oc, od, .func (PySem.W.fnOf "_law_e_breaks" "_law_e_breaks" (defArgs s_e_breaks) (defBody s_e_breaks) (defScope s_e_breaks) .none kV dc pm an cd ct), sl⟩) (c : PySem.W.codeIn K cd "_law_e_breaks" = true) (k : PySem.W.keepIn K (.ref f) = true) : DefAt K mg "_law_e_breaks" s_e_breaks ["linker", "deeds", "number"] :=
  ⟨f, _, fun_mk (st := s_e_breaks) l c k, PySem.W.mg_of X G a, (fun_mk (st := s_e_breaks) l c k).binds (ps := ["linker", "deeds", "number"]) fun _ _ _ _ _ _ us hl => match us, hl with | [_, _, _], _ => rfl⟩
theorem at_e_in_parts {K : PySem.W.Frag} {h : Heap} {mg : Str → Option Value} {f : Addr} {oc kV dc pm cd ct : Value} {od an : Option Addr} {sl : Array (Option Value)} (X : K.In h) (G : h.Ns mainGlobals mg) (a : PySem.W.nsIn K mainGlobals "_law_e_in_parts" = some (some (.ref f)))
    (l : K.lookup f = some ⟨oc, od, .func (PySem.W.fnOf "_law_e_in_parts" "_law_e_in_parts" (defArgs s_e_in_parts) (defBody s_e_in_parts) (defScope s_e_in_parts) .none kV dc pm an cd ct), sl⟩) (c : PySem.W.codeIn K cd "_law_e_in_parts" = true) (k : PySem.W.keepIn K (.ref f) = true) : DefAt K mg "_law_e_in_parts" s_e_in_parts ["pen", "linker", "deeds"] :=
  ⟨f, _, fun_mk (st := s_e_in_parts) l c k, PySem.W.mg_of X G a, (fun_mk (st := s_e_in_parts) l c k).binds (ps := ["pen", "linker", "deeds"]) fun _ _ _ _ _ _ us hl => match us, hl with | [_, _, _], _ => rfl⟩
theorem at_Twin_init {K : PySem.W.Frag} {C f : Addr} {oc kV dc pm cd ct : Value} {od an : Option Addr} {sl : Array (Option Value)} (a : PySem.W.findIn K (.ref C) "__init__" = some (some (.ref f))) (i : PySem.W.isFn K (.ref f) = true)
    (l : K.lookup f = some ⟨oc, od, .func (PySem.W.fnOf "__init__" "Twin.__init__" (defArgs s_Twin_init) (defBody s_Twin_init) (defScope s_Twin_init) .none kV dc pm an cd ct), sl⟩) (c : PySem.W.codeIn K cd "Twin.__init__" = true) (k : PySem.W.keepIn K (.ref f) = true) : MetAt K C "__init__" "Twin.__init__" s_Twin_init ["self", "name"] :=
  ⟨f, _, fun_mk (st := s_Twin_init) l c k, a, i, (fun_mk (st := s_Twin_init) l c k).binds (ps := ["self", "name"]) fun _ _ _ _ _ _ us hl => match us, hl with | [_, _], _ => rfl⟩
theorem at_NoPiece_init {K : PySem.W.Frag} {C f : Addr} {oc kV dc pm cd ct : Value} {od an : Option Addr} {sl : Array (Option Value)} (a : PySem.W.findIn K (.ref C) "__init__" = some (some (.ref f))) (i : PySem.W.isFn K (.ref f) = true)
    (l : K.lookup f = some ⟨oc, od, .func (PySem.W.fnOf "__init__" "NoPiece.__init__" (defArgs s_NoPiece_init) (defBody s_NoPiece_init) (defScope s_NoPiece_init) .none kV dc pm an cd ct), sl⟩) (c : PySem.W.codeIn K cd "NoPiece.__init__" = true) (k : PySem.W.keepIn K (.ref f) = true) : MetAt K C "__init__" "NoPiece.__init__" s_NoPiece_init ["self", "name"] :=
  ⟨f, _, fun_mk (st := s_NoPiece_init) l c k, a, i, (fun_mk (st := s_NoPiece_init) l c k).binds (ps := ["self", "name"]) fun _ _ _ _ _ _ us hl => match us, hl with | [_, _], _ => rfl⟩
theorem at_TooMany_init {K : PySem.W.Frag} {C f : Addr} {oc kV dc pm cd ct : Value} {od an : Option Addr} {sl : Array (Option Value)} (a : PySem.W.findIn K (.ref C) "__init__" = some (some (.ref f))) (i : PySem.W.isFn K (.ref f) = true)
    (l : K.lookup f = some ⟨oc, od, .func (PySem.W.fnOf "__init__" "TooMany.__init__" (defArgs s_TooMany_init) (defBody s_TooMany_init) (defScope s_TooMany_init) .none kV dc pm an cd ct), sl⟩) (c : PySem.W.codeIn K cd "TooMany.__init__" = true) (k : PySem.W.keepIn K (.ref f) = true) : MetAt K C "__init__" "TooMany.__init__" s_TooMany_init ["self", "most"] :=
  ⟨f, _, fun_mk (st := s_TooMany_init) l c k, a, i, (fun_mk (st := s_TooMany_init) l c k).binds (ps := ["self", "most"]) fun _ _ _ _ _ _ us hl => match us, hl with | [_, _], _ => rfl⟩
theorem at_Broken_init {K : PySem.W.Frag} {C f : Addr} {oc kV dc pm cd ct : Value} {od an : Option Addr} {sl : Array (Option Value)} (a : PySem.W.findIn K (.ref C) "__init__" = some (some (.ref f))) (i : PySem.W.isFn K (.ref f) = true)
    (l : K.lookup f = some ⟨oc, od, .func (PySem.W.fnOf "__init__" "Broken.__init__" (defArgs s_Broken_init) (defBody s_Broken_init) (defScope s_Broken_init) .none kV dc pm an cd ct), sl⟩) (c : PySem.W.codeIn K cd "Broken.__init__" = true) (k : PySem.W.keepIn K (.ref f) = true) : MetAt K C "__init__" "Broken.__init__" s_Broken_init ["self", "number"] :=
  ⟨f, _, fun_mk (st := s_Broken_init) l c k, a, i, (fun_mk (st := s_Broken_init) l c k).binds (ps := ["self", "number"]) fun _ _ _ _ _ _ us hl => match us, hl with | [_, _], _ => rfl⟩
theorem at_Linker_init {K : PySem.W.Frag} {C f : Addr} {oc kV dc pm cd ct : Value} {od an : Option Addr} {sl : Array (Option Value)} (a : PySem.W.findIn K (.ref C) "__init__" = some (some (.ref f))) (i : PySem.W.isFn K (.ref f) = true)
    (l : K.lookup f = some ⟨oc, od, .func (PySem.W.fnOf "__init__" "Linker.__init__" (defArgs s_Linker_init) (defBody s_Linker_init) (defScope s_Linker_init) .none kV dc pm an cd ct), sl⟩) (c : PySem.W.codeIn K cd "Linker.__init__" = true) (k : PySem.W.keepIn K (.ref f) = true) : MetAt K C "__init__" "Linker.__init__" s_Linker_init ["self"] :=
  ⟨f, _, fun_mk (st := s_Linker_init) l c k, a, i, (fun_mk (st := s_Linker_init) l c k).binds (ps := ["self"]) fun _ _ _ _ _ _ us hl => match us, hl with | [_], _ => rfl⟩
theorem at_Linker_eq {K : PySem.W.Frag} {C f : Addr} {oc kV dc pm cd ct : Value} {od an : Option Addr} {sl : Array (Option Value)} (a : PySem.W.findIn K (.ref C) "__eq__" = some (some (.ref f))) (i : PySem.W.isFn K (.ref f) = true)
    (l : K.lookup f = some ⟨oc, od, .func (PySem.W.fnOf "__eq__" "Linker.__eq__" (defArgs s_Linker_eq) (defBody s_Linker_eq) (defScope s_Linker_eq) .none kV dc pm an cd ct), sl⟩) (c : PySem.W.codeIn K cd "Linker.__eq__" = true) (k : PySem.W.keepIn K (.ref f) = true) : MetAt K C "__eq__" "Linker.__eq__" s_Linker_eq ["self", "other"] :=
  ⟨f, _, fun_mk (st := s_Linker_eq) l c k, a, i, (fun_mk (st := s_Linker_eq) l c k).binds (ps := ["self", "other"]) fun _ _ _ _ _ _ us hl => match us, hl with | [_, _], _ => rfl⟩
theorem at_Linker_len {K : PySem.W.Frag} {C f : Addr} {oc kV dc pm cd ct : Value} {od an : Option Addr} {sl : Array (Option Value)} (a : PySem.W.findIn K (.ref C) "__len__" = some (some (.ref f))) (i : PySem.W.isFn K (.ref f) = true)
    (l : K.lookup f = some ⟨oc, od, .func (PySem.W.fnOf "__len__" "Linker.__len__" (defArgs s_Linker_len) (defBody s_Linker_len) (defScope s_Linker_len) .none kV dc pm an cd ct), sl⟩) (c : PySem.W.codeIn K cd "Linker.__len__" = true) (k : PySem.W.keepIn K (.ref f) = true) : MetAt K C "__len__" "Linker.__len__" s_Linker_len ["self"] :=
  ⟨f, _, fun_mk (st := s_Linker_len) l c k, a, i, (fun_mk (st := s_Linker_len) l c k).binds (ps := ["self"]) fun _ _ _ _ _ _ us hl => match us, hl with | [_], _ => rfl⟩
theorem at_Linker_names {K : PySem.W.Frag} {C f : Addr} {oc kV dc pm cd ct : Value} {od an : Option Addr} {sl : Array (Option Value)} (a : PySem.W.findIn K (.ref C) "names" = some (some (.ref f))) (i : PySem.W.isFn K (.ref f) = true)
    (l : K.lookup f = some ⟨oc, od, .func (PySem.W.fnOf "names" "Linker.names" (defArgs s_Linker_names) (defBody s_Linker_names) (defScope s_Linker_names) .none kV dc pm an cd ct), sl⟩) (c : PySem.W.codeIn K cd "Linker.names" = true) (k : PySem.W.keepIn K (.ref f) = true) : MetAt K C "names" "Linker.names" s_Linker_names ["self"] :=
  ⟨f, _, fun_mk (st := s_Linker_names) l c k, a, i, (fun_mk (st := s_Linker_names) l c k).binds (ps := ["self"]) fun _ _ _ _ _ _ us hl => match us, hl with | [_], _ => rfl⟩
theorem at_Linker_spot {K : PySem.W.Frag} {C f : Addr} {oc kV dc pm cd ct : Value} {od an : Option Addr} {sl : Array (Option Value)} (a : PySem.W.findIn K (.ref C) "spot" = some (some (.ref f))) (i : PySem.W.isFn K (.ref f) = true)
    (l : K.lookup f = some ⟨oc, od, .func (PySem.W.fnOf "spot" "Linker.spot" (defArgs s_Linker_spot) (defBody s_Linker_spot) (defScope s_Linker_spot) .none kV dc pm an cd ct), sl⟩) (c : PySem.W.codeIn K cd "Linker.spot" = true) (k : PySem.W.keepIn K (.ref f) = true) : MetAt K C "spot" "Linker.spot" s_Linker_spot ["self", "name"] :=
  ⟨f, _, fun_mk (st := s_Linker_spot) l c k, a, i, (fun_mk (st := s_Linker_spot) l c k).binds (ps := ["self", "name"]) fun _ _ _ _ _ _ us hl => match us, hl with | [_, _], _ => rfl⟩
theorem at_Linker_put {K : PySem.W.Frag} {C f : Addr} {oc kV dc pm cd ct : Value} {od an : Option Addr} {sl : Array (Option Value)} (a : PySem.W.findIn K (.ref C) "put" = some (some (.ref f))) (i : PySem.W.isFn K (.ref f) = true)
    (l : K.lookup f = some ⟨oc, od, .func (PySem.W.fnOf "put" "Linker.put" (defArgs s_Linker_put) (defBody s_Linker_put) (defScope s_Linker_put) .none kV dc pm an cd ct), sl⟩) (c : PySem.W.codeIn K cd "Linker.put" = true) (k : PySem.W.keepIn K (.ref f) = true) : MetAt K C "put" "Linker.put" s_Linker_put ["self", "piece"] :=
  ⟨f, _, fun_mk (st := s_Linker_put) l c k, a, i, (fun_mk (st := s_Linker_put) l c k).binds (ps := ["self", "piece"]) fun _ _ _ _ _ _ us hl => match us, hl with | [_, _], _ => rfl⟩
theorem at_Linker_exchange {K : PySem.W.Frag} {C f : Addr} {oc kV dc pm cd ct : Value} {od an : Option Addr} {sl : Array (Option Value)} (a : PySem.W.findIn K (.ref C) "exchange" = some (some (.ref f))) (i : PySem.W.isFn K (.ref f) = true)
    (l : K.lookup f = some ⟨oc, od, .func (PySem.W.fnOf "exchange" "Linker.exchange" (defArgs s_Linker_exchange) (defBody s_Linker_exchange) (defScope s_Linker_exchange) .none kV dc pm an cd ct), sl⟩) (c : PySem.W.codeIn K cd "Linker.exchange" = true) (k : PySem.W.keepIn K (.ref f) = true) : MetAt K C "exchange" "Linker.exchange" s_Linker_exchange ["self", "piece"] :=
  ⟨f, _, fun_mk (st := s_Linker_exchange) l c k, a, i, (fun_mk (st := s_Linker_exchange) l c k).binds (ps := ["self", "piece"]) fun _ _ _ _ _ _ us hl => match us, hl with | [_, _], _ => rfl⟩
theorem at_Linker_take_out {K : PySem.W.Frag} {C f : Addr} {oc kV dc pm cd ct : Value} {od an : Option Addr} {sl : Array (Option Value)} (a : PySem.W.findIn K (.ref C) "take_out" = some (some (.ref f))) (i : PySem.W.isFn K (.ref f) = true)
    (l : K.lookup f = some ⟨oc, od, .func (PySem.W.fnOf "take_out" "Linker.take_out" (defArgs s_Linker_take_out) (defBody s_Linker_take_out) (defScope s_Linker_take_out) .none kV dc pm an cd ct), sl⟩) (c : PySem.W.codeIn K cd "Linker.take_out" = true) (k : PySem.W.keepIn K (.ref f) = true) : MetAt K C "take_out" "Linker.take_out" s_Linker_take_out ["self", "name"] :=
  ⟨f, _, fun_mk (st := s_Linker_take_out) l c k, a, i, (fun_mk (st := s_Linker_take_out) l c k).binds (ps := ["self", "name"]) fun _ _ _ _ _ _ us hl => match us, hl with | [_, _], _ => rfl⟩
theorem at_Linker_undo {K : PySem.W.Frag} {C f : Addr} {oc kV dc pm cd ct : Value} {od an : Option Addr} {sl : Array (Option Value)} (a : PySem.W.findIn K (.ref C) "undo" = some (some (.ref f))) (i : PySem.W.isFn K (.ref f) = true)
    (l : K.lookup f = some ⟨oc, od, .func (PySem.W.fnOf "undo" "Linker.undo" (defArgs s_Linker_undo) (defBody s_Linker_undo) (defScope s_Linker_undo) .none kV dc pm an cd ct), sl⟩) (c : PySem.W.codeIn K cd "Linker.undo" = true) (k : PySem.W.keepIn K (.ref f) = true) : MetAt K C "undo" "Linker.undo" s_Linker_undo ["self"] :=
  ⟨f, _, fun_mk (st := s_Linker_undo) l c k, a, i, (fun_mk (st := s_Linker_undo) l c k).binds (ps := ["self"]) fun _ _ _ _ _ _ us hl => match us, hl with | [_], _ => rfl⟩
theorem at_Linker_do {K : PySem.W.Frag} {C f : Addr} {oc kV dc pm cd ct : Value} {od an : Option Addr} {sl : Array (Option Value)} (a : PySem.W.findIn K (.ref C) "do" = some (some (.ref f))) (i : PySem.W.isFn K (.ref f) = true)
    (l : K.lookup f = some ⟨oc, od, .func (PySem.W.fnOf "do" "Linker.do" (defArgs s_Linker_do) (defBody s_Linker_do) (defScope s_Linker_do) .none kV dc pm an cd ct), sl⟩) (c : PySem.W.codeIn K cd "Linker.do" = true) (k : PySem.W.keepIn K (.ref f) = true) : MetAt K C "do" "Linker.do" s_Linker_do ["self", "deed"] :=
  ⟨f, _, fun_mk (st := s_Linker_do) l c k, a, i, (fun_mk (st := s_Linker_do) l c k).binds (ps := ["self", "deed"]) fun _ _ _ _ _ _ us hl => match us, hl with | [_, _], _ => rfl⟩
theorem at_Linker_all_of {K : PySem.W.Frag} {C f : Addr} {oc kV dc pm cd ct : Value} {od an : Option Addr} {sl : Array (Option Value)} (a : PySem.W.findIn K (.ref C) "all_of" = some (some (.ref f))) (i : PySem.W.isFn K (.ref f) = true)
    (l : K.lookup f = some ⟨oc, od, .func (PySem.W.fnOf "all_of" "Linker.all_of" (defArgs s_Linker_all_of) (defBody s_Linker_all_of) (defScope s_Linker_all_of) .none kV dc pm an cd ct), sl⟩) (c : PySem.W.codeIn K cd "Linker.all_of" = true) (k : PySem.W.keepIn K (.ref f) = true) : MetAt K C "all_of" "Linker.all_of" s_Linker_all_of ["self", "deeds"] :=
  ⟨f, _, fun_mk (st := s_Linker_all_of) l c k, a, i, (fun_mk (st := s_Linker_all_of) l c k).binds (ps := ["self", "deeds"]) fun _ _ _ _ _ _ us hl => match us, hl with | [_, _], _ => rfl⟩
theorem oex_mk {K : PySem.W.Frag} {C N : Addr} {nm q : Str} {bs bm sub : List Value} {sn : List Str} {ab : Bool} {col : Option Bool} {dd : Option Addr} {k0 k1 k2 k3 k5 : Option Value}
    (l : K.lookup C = some (excClassObj nm q C N bs bm true sn sub ab col dd k0 k1 k2 k3 k5 "ValueError.__new__")) (r : PySem.HandSPX.refsVE bm = true) (sa : PySem.W.findIn K (.ref C) "__setattr__" = some (some (.builtin "object.__setattr__")))
    (ex : PySem.W.subIn K (.ref C) (.type "BaseException") = some true) (ty : PySem.W.typeIn K (.ref C) = some (.type "type")) (kp : PySem.W.keepIn K (.ref C) = true) : OexC K C := ⟨⟨_, _, _, _, _, _, _, _, _, _, _, _, _, _, _, l, r⟩, sa, ex, ty, kp⟩
theorem exm_mk {K : PySem.W.Frag} {D W : Addr} (h1 : PySem.W.subIn K (.ref W) (.type "BaseException") = some true) (i : PySem.W.isClsIn K W = true) (t : PySem.W.typeIn K (.ref W) = some (.type "type")) (s : PySem.W.subIn K (.ref D) (.ref W) = some true) : PySem.W.exmOne K (.ref D) (.ref W) = some true := by
  have e1 : (PySem.W.subIn K (.ref W) (.type "BaseException") == some true) = true := by rw [h1] <;> rfl
  have e2 : ((PySem.W.clsIn K W).isSome && PySem.W.typeIn K (.ref W) == some (.type "type")) = true := by
    rw [show (PySem.W.clsIn K W).isSome = true from i, t] <;> rfl
  unfold PySem.W.exmOne PySem.W.kitCls
  rw [if_pos e1]
  show (if ((PySem.W.clsIn K W).isSome && PySem.W.typeIn K (.ref W) == some (.type "type")) = true then PySem.W.subIn K (.ref D) (.ref W) else none) = some true
  rw [if_pos e2]
  exact s
/-- a class of the errors -/
structure CK (K : PySem.W.Frag) (C : Addr) : Prop where
  i : PySem.W.isClsIn K C = true
  t : PySem.W.typeIn K (.ref C) = some (.type "type")
structure Ex5 (K : PySem.W.Frag) (CW D : Addr) (f : Str) : Prop where
  T : OexC K D
  n : PySem.W.findIn K (.ref D) f = some none
  w : PySem.W.subIn K (.ref D) (.ref CW) = some true
/-- what the top has left -/
structure Top5 (K : PySem.W.Frag) (mg : Str → Option Value) (C CW cT cN cM cB : Addr) : Prop where
  Z : Blt mg
  Z2 : mg "max" = none ∧ mg "min" = none
  cl : Cls K C
  nP : NoAttr K C "pieces"
  nD : NoAttr K C "done"
  gL : mg "Linker" = some (.ref C)
  gW : mg "WeldError" = some (.ref CW)
  gT : mg "Twin" = some (.ref cT)
  gN : mg "NoPiece" = some (.ref cN)
  gMm : mg "TooMany" = some (.ref cM)
  gB : mg "Broken" = some (.ref cB)
  gM : ∃ tk, mg "MOST_PIECES" = some (.int 30 tk)
  mkC : PySem.W.makesIn K C = true
  kc : PySem.W.keepIn K (.ref C) = true
  ha : PySem.W.findIn K (.ref C) "__class__" = some (some (.builtin "object.__class__"))
  hn : PySem.W.specialIn K (.builtin "object.__class__") "__get__" = some (some (.builtin "getset_descriptor.__get__"))
  ht : PySem.W.takesIn K (.builtin "object.__class__") = some true
  hm : PySem.W.mroIn K C (.type "object") = some true
  ne : NeOk K C
  iC : CIni K CW (.type "type")
  wB : PySem.W.subIn K (.ref CW) (.type "BaseException") = some true
  wC : CK K CW
  bC : CK K cB
  bS : PySem.W.subIn K (.ref cB) (.ref cB) = some true
  bE : ExcK K cB
  eT : Ex5 K CW cT "name"
  eN : Ex5 K CW cN "name"
  eM : Ex5 K CW cM "most"
  eB : Ex5 K CW cB "number"
  d_fill : DefAt K mg "_law_fill" s_fill ["_law_cell", "_law_at"]
  d_next : DefAt K mg "_law_next" s_next ["_law_pen", "_law_many"]
  d_e_piece : DefAt K mg "_law_e_piece" s_e_piece ["pen", "name"]
  d_e_names : DefAt K mg "_law_e_names" s_e_names ["pen"]
  d_e_spot : DefAt K mg "_law_e_spot" s_e_spot ["rows", "name"]
  d_e_deed : DefAt K mg "_law_e_deed" s_e_deed ["pen", "names", "rows"]
  d_e_after : DefAt K mg "_law_e_after" s_e_after ["rows", "deed"]
  d_e_do : DefAt K mg "_law_e_do" s_e_do ["linker", "deed"]
  d_e_like : DefAt K mg "_law_e_like" s_e_like ["linker", "rows"]
  d_e_breaks : DefAt K mg "_law_e_breaks" s_e_breaks ["linker", "deeds", "number"]
  d_e_in_parts : DefAt K mg "_law_e_in_parts" s_e_in_parts ["pen", "linker", "deeds"]
  m_Twin_init : MetAt K cT "__init__" "Twin.__init__" s_Twin_init ["self", "name"]
  m_NoPiece_init : MetAt K cN "__init__" "NoPiece.__init__" s_NoPiece_init ["self", "name"]
  m_TooMany_init : MetAt K cM "__init__" "TooMany.__init__" s_TooMany_init ["self", "most"]
  m_Broken_init : MetAt K cB "__init__" "Broken.__init__" s_Broken_init ["self", "number"]
  m_Linker_init : MetAt K C "__init__" "Linker.__init__" s_Linker_init ["self"]
  m_Linker_eq : MetAt K C "__eq__" "Linker.__eq__" s_Linker_eq ["self", "other"]
  m_Linker_len : MetAt K C "__len__" "Linker.__len__" s_Linker_len ["self"]
  m_Linker_names : MetAt K C "names" "Linker.names" s_Linker_names ["self"]
  m_Linker_spot : MetAt K C "spot" "Linker.spot" s_Linker_spot ["self", "name"]
  m_Linker_put : MetAt K C "put" "Linker.put" s_Linker_put ["self", "piece"]
  m_Linker_exchange : MetAt K C "exchange" "Linker.exchange" s_Linker_exchange ["self", "piece"]
  m_Linker_take_out : MetAt K C "take_out" "Linker.take_out" s_Linker_take_out ["self", "name"]
  m_Linker_undo : MetAt K C "undo" "Linker.undo" s_Linker_undo ["self"]
  m_Linker_do : MetAt K C "do" "Linker.do" s_Linker_do ["self", "deed"]
  m_Linker_all_of : MetAt K C "all_of" "Linker.all_of" s_Linker_all_of ["self", "deeds"]
theorem fn_type {K : PySem.W.Frag} (f : Addr) (h : PySem.W.isFn K (.ref f) = true) : PySem.W.typeIn K (.ref f) = some (.type "function") := by
  have h' : (PySem.W.typeIn K (.ref f) == some (.type "function")) = true := h
  exact eq_of_beq h'
theorem fin {P : Program} {w : World} {K : PySem.W.Frag} {h : Heap} {mg : Str → Option Value} {fa f C CW cT cN cM cB : Addr} {oc kV dc pm cd ct : Value} {od an : Option Addr} {sl : Array (Option Value)} (X : K.In h) (G : h.Ns mainGlobals mg) (hfa : mg "law" = some (.ref fa))
    (a : PySem.W.nsIn K mainGlobals "law" = some (some (.ref f))) (l : K.lookup f = some ⟨oc, od, .func (PySem.W.fnOf "law" "law" (defArgs s_law) (defBody s_law) (defScope s_law) .none kV dc pm an cd ct), sl⟩) (c : PySem.W.codeIn K cd "law" = true) (k : PySem.W.keepIn K (.ref f) = true)
    (T : Top5 K mg C CW cT cN cM cB) : ∃ fd : FuncData, (∀ (s : Shared) (v : Value), BindsTo s fd ⟨[v], []⟩ [("script", v)]) ∧ ∀ base : Heap, K.In base → base.Ns mainGlobals mg → FnOk P w K mg base CX0 8 fa fd ["script"] (spLaw K) := by
  have e := hfa.symm.trans (PySem.W.mg_of X G a)
  cases e
  obtain ⟨tk, gM⟩ := T.gM
  refine ⟨PySem.W.fnOf "law" "law" (defArgs s_law) (defBody s_law) (defScope s_law) .none kV dc pm an cd ct, fun s v => .of_eq rfl, fun base _ _ => ?_⟩
  have hxm : ∀ rf : Rf, PySem.W.exmOne K (.ref (rf.C cM cT cN)) (.ref CW) = some true ∧ PySem.W.subIn K (.ref (rf.C cM cT cN)) (.type "BaseException") = some true := fun rf => match rf with
    | .many => ⟨exm_mk T.wB T.wC.i T.wC.t T.eM.w, T.eM.T.exC⟩
    | .twin => ⟨exm_mk T.wB T.wC.i T.wC.t T.eT.w, T.eT.T.exC⟩
    | .piece => ⟨exm_mk T.wB T.wC.i T.wC.t T.eN.w, T.eN.T.exC⟩
  have X_Twin : ExcD P w K mg base "Twin" cT "name" := I_Twin T.eT.T T.gW T.iC T.eT.n T.gT T.m_Twin_init fn_type
  have X_NoPiece : ExcD P w K mg base "NoPiece" cN "name" := I_NoPiece T.eN.T T.gW T.iC T.eN.n T.gN T.m_NoPiece_init fn_type
  have X_TooMany : ExcD P w K mg base "TooMany" cM "most" := I_TooMany T.eM.T T.gW T.iC T.eM.n T.gMm T.m_TooMany_init fn_type
  have XH : ExcH P w K mg base "Broken" cB "number" := I_Broken T.eB.T T.gW T.iC T.eB.n T.gB T.m_Broken_init fn_type
  have M0 := M_init (P := P) (w := w) (mg := mg) (base := base) T.cl T.nP T.nD T.m_Linker_init
  have Mn := M_names (P := P) (w := w) (mg := mg) (base := base) T.cl T.nP T.m_Linker_names
  have Ml := M_len (P := P) (w := w) (mg := mg) (base := base) T.Z T.cl T.nP T.m_Linker_len
  have Ns := N_spot T.Z T.cl T.nP X_NoPiece T.m_Linker_spot
  have Np := N_put T.Z T.cl T.nP T.nD gM X_TooMany X_Twin Mn T.m_Linker_put
  have Nx := N_exchange T.Z T.cl T.nP T.nD Ns T.m_Linker_exchange
  have Nt := N_take_out T.Z T.cl T.nP T.nD Ns T.m_Linker_take_out
  have Nd := N_do T.cl Np Nx Nt T.m_Linker_do
  have Ma := M_all T.Z T.cl T.nP T.nD T.gW XH hxm Nd T.m_Linker_all_of
  have ti : ∀ (H : Hp) (l pl dl dx : Addr), H l = some (.ins C dx (lf pl dl)) → TyX K H (.ref l) (.ref C) := fun H l pl dl dx e => .base (.ins e T.cl T.ha T.hn T.ht T.hm)
  have kC : PySem.W.kitOne K (.ref C) (.ref C) = some true := by
    unfold PySem.W.kitOne
    rw [if_pos (by simp)]
  have kL : PySem.W.kitOne K (.type "list") (.type "list") = some true := by
    unfold PySem.W.kitOne
    rw [if_pos (by simp)]
  have Me := M_eq (P := P) (w := w) (mg := mg) (base := base) T.Z T.cl T.nP T.gL ti kC T.m_Linker_eq
  have Mu := M_undo (P := P) (w := w) (mg := mg) (base := base) T.Z T.cl T.nP T.nD T.m_Linker_undo
  have MK : ClsMk K mg "Linker" C := ⟨T.gL, T.cl, T.mkC, T.kc⟩
  have D1 := D_fill (P := P) (w := w) (mg := mg) (base := base) T.d_fill
  have D2 := D_next T.Z D1 T.d_next
  have D3 := D_piece D2 T.d_e_piece
  have D4 := D_names D2 T.d_e_names
  have D5 := D_spot (P := P) (w := w) (mg := mg) (base := base) T.Z T.d_e_spot
  have D6 := D_deed T.Z D2 D3 D5 T.d_e_deed
  have D7 := D_after D5 T.d_e_after
  have D8 := D_do T.cl Np.down Nx.down Nt.down T.d_e_do
  have D9 := D_like T.Z T.cl kL M0 MK Np.down Mn Ml Me T.d_e_like
  have D10 := D_breaks T.cl T.gB (exm_mk T.eB.T.exC T.bC.i T.bC.t T.bS) T.bE T.eB.n Ma T.d_e_breaks
  have D11 := D_parts T.Z T.cl D2 Ma T.d_e_in_parts
  exact D_law (CB := cB) T.Z T.Z2 T.cl T.ne M0 MK Mn Mu Me D2 D4 D6 D7 D8 D9 D10 D11 (fun_mk (st := s_law) l c k)

theorem gm_mk {K : PySem.W.Frag} {h : Heap} {mg : Str → Option Value} {tk : Tok} (X : K.In h) (G : h.Ns mainGlobals mg) (a : PySem.W.nsIn K mainGlobals "MOST_PIECES" = some (some (.int 30 tk))) : ∃ tk, mg "MOST_PIECES" = some (.int 30 tk) := ⟨tk, PySem.W.mg_of X G a⟩
theorem walk85 {l : PySem.W.OpenLaw} {q : Program} {loose : List Str} {XP : (Str → Option Value) → Heap → Prop} {YP : World → Heap → Prop} {d : DefRec} {K : Params → PySem.W.Frag} (hn : l.most = some 63) (hdf : d.params.defaults = []) (hY : ∀ (w : World) (h : Heap), YP w h → (K w.params).In h)
    (F : ∀ (w : World) (mg : Str → Option Value) (fa : Addr) (h : Heap), (K w.params).In h → h.Ns mainGlobals mg → mg d.name = some (.ref fa) → ∃ fd : FuncData, (∀ (s : Shared) (u : Value), BindsTo s fd ⟨[u], []⟩ [("script", u)]) ∧
      ∀ base : Heap, (K w.params).In base → base.Ns mainGlobals mg → FnOk l.prog w (K w.params) mg base CX0 8 fa fd ["script"] (spLaw (K w.params))) : PySem.W.WalkO q loose XP YP l.row.toRowW d [] (fun f vs => PySem.call f vs) :=
  L2.walk_of (n := 63) (k := 8) (x := "script") (CX := fun _ => CX0) (sp := fun w => spLaw (K w.params)) hn (by decide) hdf ⟨rfl, by decide, by decide⟩ hY F (fun _ H a ns hl hO hS => ⟨a, ns, rfl, by
    rcases hS with (z | ⟨o, z⟩) | z
    · rcases hO a with y | ⟨o, xs, y⟩
      · rw [y] at z
        cases z
      · rw [y] at z
        cases z
    · exact .inl ⟨o, z⟩
    · exact .inr z, hl, fun _ => rfl⟩) fun _ _ _ _ _ z => z
end WM
set_option Elab.async false
set_option linter.all false
set_option maxRecDepth 100000
open PySem PySem.W PyProof.Rows
local macro_rules | `(tactic| walk_at "def") => `(tactic| (case a => k_is); (case l => k_is); (case c => k_is); (case k => k_is))
local macro_rules | `(tactic| walk_at "met") => `(tactic| (case a => k_is); (case i => k_is); (case l => k_is); (case c => k_is); (case k => k_is))
local macro_rules | `(tactic| walk_at "ck") => `(tactic| (refine' ⟨?i, ?t⟩; (case i => k_is); (case t => k_is)))
local macro_rules | `(tactic| walk_at "exk") => `(tactic| (refine' ⟨?z1, ?z2, ?z3, ?z4, ?z5, ?z6, ?z7, ?z8, ?z9⟩; (case z1 => (show PySem.W.isClsIn _ _ = true; k_is)); (case z2 => k_is); (case z3 => k_is); (case z4 => k_is); (case z5 => k_is); (case z6 => k_is); (case z7 => k_is); (case z8 => k_is); (case z9 => k_is)))
local macro_rules | `(tactic| walk_at "ex5") => `(tactic| (refine' ⟨?T, ?n, ?w⟩; (case T => (refine' WM.oex_mk ?l ?r ?sa ?ex ?ty ?kp; (case l => k_is); (case r => decide +kernel); (case sa => k_is); (case ex => k_is); (case ty => k_is); (case kp => k_is))); (case n => k_is); (case w => k_is)))
set_option maxRecDepth 100000 in
set_option maxHeartbeats 0 in
theorem PySem.Challenge.cw_weldmill_k85_several_as_one_by_one_holds : PySem.Challenge.rw_weldmill_k85_several_as_one_by_one.Holds := by
  w_on; o_law; k_head; (case hw => w_witness2)
  k_fill
  refine WM.walk85 (l := PySem.Challenge.rw_weldmill_k85_several_as_one_by_one) rfl rfl (fun w h Y => PySem.W.kIn_of Y) ?F
  case F =>
    intro w mg fa h KX G hmg
    refine' WM.fin KX G hmg ?a ?l ?c ?k ?T
    (case a => k_is); (case l => k_is); (case c => k_is); (case k => k_is)
    case T =>
      refine' WM.Top5.mk ?Z ?Z2 ?cl ?nP ?nD ?gL ?gW ?gT ?gN ?gMm ?gB ?gM ?mkC ?kc ?ha ?hn ?ht ?hm ?ne ?iC ?wB ?wC ?bC ?bS ?bE ?eT ?eN ?eM ?eB ?d_fill ?d_next ?d_e_piece ?d_e_names ?d_e_spot ?d_e_deed ?d_e_after ?d_e_do ?d_e_like ?d_e_breaks ?d_e_in_parts ?m_Twin_init ?m_NoPiece_init ?m_TooMany_init ?m_Broken_init ?m_Linker_init ?m_Linker_eq ?m_Linker_len ?m_Linker_names ?m_Linker_spot ?m_Linker_put ?m_Linker_exchange ?m_Linker_take_out ?m_Linker_undo ?m_Linker_do ?m_Linker_all_of
      (case gL => (refine' mg_of KX G ?a; (case a => k_is)))
      (case gW => (refine' mg_of KX G ?a; (case a => k_is)))
      (case gT => (refine' mg_of KX G ?a; (case a => k_is)))
      (case gN => (refine' mg_of KX G ?a; (case a => k_is)))
      (case gMm => (refine' mg_of KX G ?a; (case a => k_is)))
      (case gB => (refine' mg_of KX G ?a; (case a => k_is)))
      (case gM => (refine' WM.gm_mk KX G ?a; (case a => k_is)))
      (case Z => (refine' ⟨mg_none_of KX G ?a1, mg_none_of KX G ?a2, mg_none_of KX G ?a3, mg_none_of KX G ?a4, mg_none_of KX G ?a5, mg_none_of KX G ?a6, mg_none_of KX G ?a7⟩; (case a1 => k_is); (case a2 => k_is); (case a3 => k_is); (case a4 => k_is); (case a5 => k_is); (case a6 => k_is); (case a7 => k_is)))
      (case Z2 => (refine' ⟨mg_none_of KX G ?a1, mg_none_of KX G ?a2⟩; (case a1 => k_is); (case a2 => k_is)))
      (case cl => (refine' ⟨?a1, ?a2, ?a3, ?a4⟩; (case a1 => k_is); (case a2 => k_is); (case a3 => k_is); (case a4 => k_is)))
      (case nP => (show PySem.W.findIn _ _ _ = _; k_is)); (case nD => (show PySem.W.findIn _ _ _ = _; k_is))
      (case mkC => k_is); (case kc => k_is); (case ha => k_is); (case hn => k_is); (case ht => k_is); (case hm => k_is)
      (case ne => (refine' ⟨?a1, ?a2⟩; (case a1 => k_is); (case a2 => k_is)))
      (case iC => (refine' ⟨?a1, ?a2, ?a3⟩; (case a1 => k_is); (case a2 => k_is); (case a3 => k_is)))
      (case wB => k_is); (case wC => walk_at "ck"); (case bC => walk_at "ck"); (case bS => first | rfl | k_is); (case bE => walk_at "exk")
      (case eT => walk_at "ex5"); (case eN => walk_at "ex5"); (case eM => walk_at "ex5"); (case eB => walk_at "ex5")
      (case d_fill => (refine' WM.at_fill KX G ?a ?l ?c ?k; walk_at "def"))
      (case d_next => (refine' WM.at_next KX G ?a ?l ?c ?k; walk_at "def"))
      (case d_e_piece => (refine' WM.at_e_piece KX G ?a ?l ?c ?k; walk_at "def"))
      (case d_e_names => (refine' WM.at_e_names KX G ?a ?l ?c ?k; walk_at "def"))
      (case d_e_spot => (refine' WM.at_e_spot KX G ?a ?l ?c ?k; walk_at "def"))
      (case d_e_deed => (refine' WM.at_e_deed KX G ?a ?l ?c ?k; walk_at "def"))
      (case d_e_after => (refine' WM.at_e_after KX G ?a ?l ?c ?k; walk_at "def"))
      (case d_e_do => (refine' WM.at_e_do KX G ?a ?l ?c ?k; walk_at "def"))
      (case d_e_like => (refine' WM.at_e_like KX G ?a ?l ?c ?k; walk_at "def"))
      (case d_e_breaks => (refine' WM.at_e_breaks KX G ?a ?l ?c ?k; walk_at "def"))
      (case d_e_in_parts => (refine' WM.at_e_in_parts KX G ?a ?l ?c ?k; walk_at "def"))
      (case m_Twin_init => (refine' WM.at_Twin_init ?a ?i ?l ?c ?k; walk_at "met"))
      (case m_NoPiece_init => (refine' WM.at_NoPiece_init ?a ?i ?l ?c ?k; walk_at "met"))
      (case m_TooMany_init => (refine' WM.at_TooMany_init ?a ?i ?l ?c ?k; walk_at "met"))
      (case m_Broken_init => (refine' WM.at_Broken_init ?a ?i ?l ?c ?k; walk_at "met"))
      (case m_Linker_init => (refine' WM.at_Linker_init ?a ?i ?l ?c ?k; walk_at "met"))
      (case m_Linker_eq => (refine' WM.at_Linker_eq ?a ?i ?l ?c ?k; walk_at "met"))
      (case m_Linker_len => (refine' WM.at_Linker_len ?a ?i ?l ?c ?k; walk_at "met"))
      (case m_Linker_names => (refine' WM.at_Linker_names ?a ?i ?l ?c ?k; walk_at "met"))
      (case m_Linker_spot => (refine' WM.at_Linker_spot ?a ?i ?l ?c ?k; walk_at "met"))
      (case m_Linker_put => (refine' WM.at_Linker_put ?a ?i ?l ?c ?k; walk_at "met"))
      (case m_Linker_exchange => (refine' WM.at_Linker_exchange ?a ?i ?l ?c ?k; walk_at "met"))
      (case m_Linker_take_out => (refine' WM.at_Linker_take_out ?a ?i ?l ?c ?k; walk_at "met"))
      (case m_Linker_undo => (refine' WM.at_Linker_undo ?a ?i ?l ?c ?k; walk_at "met"))
      (case m_Linker_do => (refine' WM.at_Linker_do ?a ?i ?l ?c ?k; walk_at "met"))
      (case m_Linker_all_of => (refine' WM.at_Linker_all_of ?a ?i ?l ?c ?k; walk_at "met"))
