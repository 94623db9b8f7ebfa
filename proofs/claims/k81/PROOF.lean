import PyProof.Rows.All
import Wide.All
import OpenK.AllK
import Wide.FinOn
import KE.KExcIs
import HandS.ForMost
import HandS.Exc
import HandS.ExcOwn
import HandS.TryOnly
import HandS.WordsExc
import HandS.ExcInit
import HandS.ExcField
import HandS.OwnEq
import HandS.IsInst
import HandS.More
import HandS.Style
import HandS.Walk
import PySem.Challenge.RW_weldmill_k81_deeds_refused
set_option Elab.async false
set_option linter.all false
set_option maxRecDepth 100000
set_option maxHeartbeats 2000000
namespace WM
open PySem PySem.Spec PyProof.Rows L2
/-! ### 1. an own class's __init__ that is ValueError's, called through the class -/
structure CIni (K : PySem.W.Frag) (D : Addr) (mc : Value) : Prop where
  rd : PySem.W.readsIn K D mc = true
  ga : PySem.W.specialIn K (.ref D) "__getattribute__" = some (some (.builtin "type.__getattribute__"))
  at_ : PySem.W.findCls K (.ref D) mc "__init__" = some (.val (.builtin "ValueError.__init__"))
section
variable {X : Cx} {e : Expr} {es : List Expr} {ta : TA} {p1 p2 pos : Pos}
theorem pe_clsinit {D : Addr} {mc : Value} {x : Str} {pl : Sem Bool} (hg : Gl X x) (hm : X.mg x = some (.ref D)) (c : CIni X.K D mc) (ha : PA X (e :: es) ta) (hdb : (x == ("__debug__" : Str)) = false := by decide)
    (hc : eval (.Call (.Attribute (.Name x p1) "__init__" p2) (e :: es) [] pos) X.env = (do
      let ov ← eval (.Name x p1) X.env
      standAt p2.atName
      let (f, first) ← holding [ov] (getMethod ov "__init__" pl)
      callWith pos f first (backTo pos (starEach (e :: es) X.env)) (backToKw pos (keywordEach [] X.env))) := by rfl)
    (he : starEach (e :: es) X.env = (false, eval e X.env) :: starEach es X.env := by rfl) (hpl : (backTo pos (starEach es X.env)).any (·.1) = false := by rfl) :
    PE X (.Call (.Attribute (.Name x p1) "__init__" p2) (e :: es) [] pos) (tVeI X.K ta) := by
  refine ⟨fun pins s σ H Q I h => PySem.W.methodCall_KW (ld_glob I hg hm ?_ hdb) hc⟩
  refine PySem.W.method_cls I.kIn c.ga (PySem.W.cls_value I.kIn c.rd c.at_ rfl ?_)
  show wpAny _ _ (callWith pos (Value.builtin "ValueError.__init__") [] (backTo pos (starEach (e :: es) X.env)) []) _ _ _
  refine PyProof.Rows.callWith_method1 (thn (ha.run pos pins _ σ H _ (I.tok _) h) fun us s1 w => ?_) he hpl
  obtain ⟨vs, H1, I1, r1, a, C, ws, ev, hl, T, ea, q⟩ := w
  subst ev
  cases r1 with
  | cons ra rw' =>
    cases ra
    refine oinit_ok T I1 ea ?_ fun s' J => ⟨.non, H1, J, rfl, q⟩
    have n := Paired.length rw'
    rw [sizeLine_eq]
    omega
end
/-! ### 2. a caught exception as a value -/
/-- at a stands an exception of the class cls, its own dict at d -/
def exv (a : Addr) (cls : Value) (d : Option Addr) : HO := .ext fun h => ∃ (oe : Obj) (vs : Array Value), h.get? a = some oe ∧ Zc cls d oe ∧ oe.data = .fields vs
theorem exv_ok {P : Program} {w : World} {H : Hp} {h : Heap} {a : Addr} {cls : Value} {d : Option Addr} {oe : Obj} {vs : Array Value} (e : h.get? a = some oe) (z : Zc cls d oe) (hd : oe.data = .fields vs) : ObjOk P w H h a (exv a cls d) :=
  ⟨⟨oe, vs, e, z, hd⟩, ⟨oe, e⟩, fun _ _ ⟨o, v, q, r⟩ k => ⟨o, v, k o q, r⟩⟩
section
variable {X : Cx} {pins : List (Addr × Obj)} {σ : L2.St} {H : Hp} {s : Shared}
/-- an object that stands untracked, new since the entry, is tracked from here on -/
theorem track {a : Addr} {o : HO} (I : Inv X pins σ H s) (hn : H a = none) (h0 : X.s_0.heap.get? a = none) (hl : a ≠ X.env.locals) (hc : ∀ x c, X.env.cells.lookup x = some c → c ≠ a) (hp : ∀ p ∈ X.pn ++ pins, p.1 ≠ a)
    (new : ObjOk X.prog X.w (upd H a o) s.heap a o) : Inv X pins σ (upd H a o) s := by
  have far : ∀ b ob, X.s_0.heap.get? b = some ob → b ≠ a := fun b ob e z => by
    rw [z, h0] at e
    cases e
  refine ⟨I.ok, I.os, I.bare, ⟨I.base.keep, I.base.slot, fun b ob e n x => ?_, I.base.there, fun b xs e => ?_, fun b ob u e => ?_, fun b ps e => ?_⟩, I.loc, I.cell, ?_, fun x c e => ?_, fun p hq => ?_, ?_, I.len⟩
  · rw [upd_ne (far b ob e)]
    exact I.base.free b ob e n x
  · have q := I.base.tups b xs e
    rw [upd_ne (ne_of_none q hn)]
    exact q
  · have q := I.base.frzs b ob u e
    rw [upd_ne (ne_of_none q hn)]
    exact q
  · obtain ⟨m, q⟩ := I.base.tbls b ps e
    exact ⟨m, by rw [upd_ne (ne_of_none q hn)]; exact q⟩
  · rw [upd_ne (Ne.symm hl)]
    exact I.free
  · rw [upd_ne (hc x c e)]
    exact I.freeC x c e
  · obtain ⟨g1, g2, g3, g4, g5⟩ := I.pin p hq
    refine ⟨g1, ?_, g3, g4, g5⟩
    rw [upd_ne (hp p hq)]
    exact g2
  · intro b u e
    by_cases hb : b = a
    · rw [hb, upd_same] at e
      cases e
      rw [hb]
      exact new
    · rw [upd_ne hb] at e
      refine (I.hok b u e).stay (fun c v _ q => q) (fun c q => ?_) fun c xs q => ?_
      · rw [upd_ne (ne_of_none q hn)]
        exact q
      · rw [upd_ne (ne_of_none q hn)]
        exact q
end
/-- behind the suite the exception stays, tracked at a; the clause's own name is gone -/
def endV (a : Addr) (cls : Value) (d : Option Addr) (i : Nat) (D : Ends) : Ends := { nx := fun σ' H' => H' a = none → D.nx (σ'.set i none) (upd H' a (exv a cls d)), rt := fun _ _ => False }
/-- what «except x as n», n in slot i, wishes of an exception, if the exception is to stay as a value -/
def wAsV (K : PySem.W.Frag) (c : Value) (i : Nat) (ts : Addr → Value → Option Addr → TS) (Wout : WX) (D : Ends) : WX := fun cls d σ H =>
  ∃ b, PySem.W.exmOne K cls c = some b ∧ (b = true → ∀ a, H a = none → ts a cls d (endV a cls d i D) (σ.set i (some (.ref a))) H) ∧ (b = false → Wout cls d σ H)
section
variable {X : Cx} {x n : Str} {c : Value} {i : Nat} {body suite : List Stmt} {b₀ : Stmt} {np pos pos' : Pos} {tb : WX → TS} {ts : Addr → Value → Option Addr → TS} {Wout : WX}
theorem ps_try_asV (hs : X.stack = X.env :: X.outer) (hf : X.env.frame = some X.env.locals) (hex : X.ex = []) (hN : X.N.Nodup) (hi : X.N[i]? = some n) (hln : X.env.kindOf n = some .local) (hc : Names X x c) (tk : Takes X Wout)
    (hb : ∀ (W : WX) (pn : List (Addr × Obj)) (xe : Value → Shared → Prop), Takes (X.tr pn xe) W → PassesOwn (model X.prog X.w) X.A X.env xe → PSs (X.tr pn xe) body (tb W))
    (hsu : ∀ (a : Addr) (oe : Obj) (cls : Value) (d : Option Addr) (pn : List (Addr × Obj)), Zc cls d oe → (∃ vs, oe.data = .fields vs) → PSs (X.suite a ((a, oe) :: pn)) (b₀ :: suite) (ts a cls d)) :
    PS X (.Try body [.ExceptHandler (some (.Name x np)) (some n) (b₀ :: suite) pos'] [] [] pos) (fun D σ H => tb (wAsV X.K c i ts Wout D) D σ H) := by
  refine ⟨fun pins s σ H D I h => wpAny_Try_except ?_⟩
  have ok := I.ok
  have hfr : X.A.frames = some (X.env :: X.outer) := ok.frames.trans (congrArg some hs)
  refine wpAny_mono ((hb (wAsV X.K c i ts Wout D) (X.pn ++ pins) (fun e s₁ => wpAny (model X.prog X.w) X.A (noteFrame e X.env) (fun _ s₂ => wpAny (model X.prog X.w) X.A (setFlight e none) (fun _ s₃ =>
    wpAny (model X.prog X.w) X.A (handleBy e X.env [.ExceptHandler (some (.Name x np)) (some n) (b₀ :: suite) pos']) (SP X pins D) X.xe s₃) X.xe s₂) X.xe s₁) (fun u s' w => ?_) PassesOwn.looking).run [] s σ H D (I.toTry _) h) (fun f s1 w => ?_) (fun _ _ z => z)
  · obtain ⟨a, B, sI, pins', σ', H', cls, d, rfl, J', nb, up, sky, na, os, ag, b, hb1, hyes, hno⟩ := w
    have J : Inv X pins σ' H' sI := J'.ofTry ok
    refine Sky.land Zc.steady hfr hf (show Sky B (X.env :: X.outer) a (Zc cls d) X.env.locals s'.heap from hs ▸ sky) fun h3 fl3 up3 => ?_
    have J3 : Inv X pins σ' H' { s' with heap := h3 } := J.landed nb fl3.1 (up.trans up3) os ag
    obtain ⟨oe3, vs3, he3, hz3, hd3⟩ := fl3.there
    -- a is no frame
    have nfr : a ∉ frs (X.env :: X.outer) := fun hm => by
      obtain ⟨_, o', e', hnf⟩ := fl3.2.2.1.mem hm
      have eo : oe3 = o' := Option.some.inj (he3.symm.trans e')
      exact hnf _ (eo ▸ hd3)
    have nL : a ≠ X.env.locals := fun z => nfr (List.mem_filterMap.mpr ⟨X.env, List.mem_cons_self, hf.trans (congrArg some z.symm)⟩)
    have nF : a ∉ X.fs := fun hm => by
      obtain ⟨e, he, q⟩ := List.mem_filterMap.mp hm
      exact nfr (List.mem_filterMap.mpr ⟨e, List.mem_cons_of_mem _ he, q⟩)
    -- a is new
    have nI : sI.heap.get? a = none := by
      cases q : sI.heap.get? a with
      | none => rfl
      | some o =>
        have z := nb a o q (hs ▸ nfr)
        rw [fl3.2.1] at z
        cases z
    have n0 : X.s_0.heap.get? a = none := by
      cases q : X.s_0.heap.get? a with
      | none => rfl
      | some o =>
        obtain ⟨o', z⟩ := J.base.there a o q (by rw [hex]; simp)
        rw [nI] at z
        cases z
    have nP : ∀ p ∈ X.pn ++ pins, p.1 ≠ a := fun p hp z => by
      have q := (J.pin p hp).1
      rw [z, nI] at q
      cases q
    have S3 := J3.suite he3 hd3 na nL nF
    refine wpAny_handleBy_cons (codeAny_handlers_test ?_) (fun q => nomatch q)
    have LT : PySem.W.Looks (model X.prog X.w) h3 (typeOf (.ref a)) cls := fun A Q E s k q => wpAny_typeOf_ref (k _ _ he3) (hz3.1.symm ▸ q)
    have LM := PySem.W.exm_one (M := model X.prog X.w) J3.kIn LT hb1
    have test : ∀ {Q : Value → Shared → Prop} {E : Value → Shared → Prop}, Q c { s' with heap := h3 } → wpAny (model X.prog X.w) (X.A.mark (some (.ref a))) (eval (.Name x np) X.env) Q E { s' with heap := h3 } := fun {Q E} q => by
      obtain ⟨hg, hdbg, hm | ⟨hm, hv, hnn⟩⟩ := hc
      · exact ld_glob (X := X.suite a ((a, oe3) :: (X.pn ++ pins))) S3 hg hm q hdbg
      · exact ld_blt (X := X.suite a ((a, oe3) :: (X.pn ++ pins))) S3 hg hm hv q hnn hdbg
    refine test (LM.here ?_)
    cases b with
    | true =>
      refine codeAny_handlers_suite_as (HandSPX.lands_againZ fl3 fun h4 fl4 up4 => ?_)
      have J4 : Inv X pins σ' H' { s' with heap := h4 } := J.landed nb fl4.1 ((up.trans up3).trans up4) os ag
      obtain ⟨oe4, vs4, he4, hz4, hd4⟩ := fl4.there
      have S4 := J4.suite he4 hd4 na nL nF
      refine store_ok (X := X.suite a ((a, oe4) :: (X.pn ++ pins))) (v := .ref a) S4 hN hi (.inl hln) rfl (fun s5 S5 => ?_) (.inr hln)
      refine wpAny_mono ((hsu a oe4 cls d (X.pn ++ pins) hz4 ⟨_, hd4⟩).run [] s5 _ H' _ S5 (hyes rfl a na)) (fun f s6 w => ?_) (fun _ _ z => z.elim)
      cases f with
      | next =>
        obtain ⟨σ6, H6, S6, q6⟩ := w
        obtain ⟨ga, gn, _⟩ := S6.pin (a, oe4) (List.mem_append_left _ List.mem_cons_self)
        have J6 : Inv X pins σ6 H6 s6 := S6.unsuite ok
        have nC : ∀ x c, X.env.cells.lookup x = some c → c ≠ a := fun x c e z => by
          obtain ⟨v, o, g1, g2⟩ := J6.cell x c e
          have eo : o = oe4 := Option.some.inj (g1.symm.trans (z ▸ ga))
          rw [eo, hd4] at g2
          cases g2
        have J7 := track J6 gn n0 nL nC nP (exv_ok (cls := cls) (d := d) ga hz4 hd4)
        exact gone_ok J7 hN hi hln fun s7 J8 => ⟨_, _, J8, q6 gn⟩
      | brk =>
        obtain ⟨_, _, _, q6⟩ := w
        exact q6.elim
      | cont =>
        obtain ⟨_, _, _, q6⟩ := w
        exact q6.elim
      | ret u =>
        obtain ⟨_, _, _, _, _, q6⟩ := w
        exact q6.elim
    | false =>
      refine wpAny_handleBy_nil ?_
      obtain ⟨k1, k2, k3, oe, vs, T, oT, tt, he, hz, hd, h1, hr⟩ := id fl3
      unfold PySem.passOn
      refine wpAny_bind (wpAny_field he hd h1 ?_)
      rw [if_neg (show ¬ ((Value.ref T == Value.none) = true) by simp)]
      have fin : wpAny (model X.prog X.w) X.A (setFlight (.ref a) X.env.frame) (fun _ s4 => wpAny (model X.prog X.w) X.A (throw (.ref a) : Sem Flow) (SP X pins D) X.xe s4) X.xe { s' with heap := h3 } := by
        rw [hf]
        exact HandSPX.setFlight_upZ fl3 fun h4 hh4 up4 => wpAny_throw (tk _ _ ⟨a, B, sI, pins, σ', H', cls, d, rfl, J, nb, (up.trans up3).trans up4, .inr (.inr (by rw [hs]; exact hh4)), na, os, ag, hno rfl⟩)
      first
        | exact wpAny_bind (wpAny_pure (wpAny_bind fin))
        | exact wpAny_bind fin
  · cases f with
    | next =>
      obtain ⟨σ', H', J', q⟩ := w
      exact wpAny_execs_nil ⟨σ', H', J'.ofTry ok, q⟩
    | brk =>
      obtain ⟨σ', H', J', q⟩ := w
      exact ⟨σ', H', J'.ofTry ok, q⟩
    | cont =>
      obtain ⟨σ', H', J', q⟩ := w
      exact ⟨σ', H', J'.ofTry ok, q⟩
    | ret u =>
      obtain ⟨v, σ', H', J', r, q⟩ := w
      exact ⟨v, σ', H', J'.ofTry ok, r, q⟩
end
/-- what the class D must say, so that its instances are asked and read rightly -/
structure ExcK (K : PySem.W.Frag) (D : Addr) : Prop where
  cl : (PySem.W.clsIn K D).isSome = true
  hg : PySem.W.findIn K (.ref D) "__getattribute__" = some (some (.builtin "BaseException.__getattribute__"))
  hk : PySem.W.findIn K (.ref D) "__getattr__" = some none
  hs : PySem.W.subIn K (.ref D) (.type "BaseException") = some true
  hd : PySem.W.hasDictIn K D = true
  ha : PySem.W.findIn K (.ref D) "__class__" = some (some (.builtin "object.__class__"))
  hn : PySem.W.specialIn K (.builtin "object.__class__") "__get__" = some (some (.builtin "getset_descriptor.__get__"))
  ht : PySem.W.takesIn K (.builtin "object.__class__") = some true
  hm : PySem.W.mroIn K D (.type "object") = some true
/-- the exception at a with its own dict at dd -/
def ExAt (H : Hp) (a D dd : Addr) (fs : List (Str × V)) : Prop := H a = some (exv a (.ref D) (some dd)) ∧ H dd = some (.xd fs)
section
variable {X : Cx} {pins : List (Addr × Obj)} {σ : L2.St} {H : Hp} {s : Shared}
theorem exAt_inst {a D dd : Addr} {fs : List (Str × V)} (I : Inv X pins σ H s) (h : ExAt H a D dd fs) : ∃ (ox od : Obj) (mA : Str → Option Value), PySem.W.InstAt s.heap a ox D (some od) ∧ (∀ name, PySem.W.lookIn name od = some (mA name)) ∧ ∀ f, RelO (fs.lookup f) (mA f) := by
  obtain ⟨ha, hd⟩ := h
  obtain ⟨⟨oe, vs, ho, hz, hv⟩, _, _⟩ := (show ObjOk X.prog X.w H s.heap a (exv a (.ref D) (some dd)) from I.hok a _ ha)
  obtain ⟨mA, hns, hr⟩ := (show ObjOk X.prog X.w H s.heap dd (.xd fs) from I.hok dd _ hd)
  obtain ⟨od, hod, hl⟩ := lookIn_ns hns
  exact ⟨oe, od, mA, ⟨ho, hz.1, by unfold PySem.W.notCls; rw [hv] <;> rfl, by rw [hz.2]; exact hod⟩, hl, hr⟩
/-- isinstance(e, c) of such an exception -/
def rIsV (K : PySem.W.Frag) : List V → Hp → VK → Prop := fun xs H Q => ∃ (a D dd : Addr) (fs : List (Str × V)) (c : V) (cv : Value) (b : Bool), xs = [.ref a, c] ∧ ExAt H a D dd fs ∧ ExcK K D ∧ ClsV c cv ∧ PySem.W.kitOne K (.ref D) cv = some b ∧ Q (.bl b) H
theorem call_isV : CallR X (.builtin "isinstance") (rIsV X.K) := by
  intro pins s σ H xs us Q I r h
  obtain ⟨a, D, dd, fs, c, cv, b, rfl, hA, T, hc, e, q⟩ := h
  obtain ⟨u1, u2, rfl, r1, r2⟩ := vals2 r
  cases r1
  have ec := hc.eq r2
  subst ec
  obtain ⟨ox, od, mA, J, _, _⟩ := exAt_inst I hA
  exact PySem.W.kia_one (PySem.W.kitx_exc T.cl T.hg T.hk T.hs T.ha T.hn T.ht T.hm) I.kIn J e (fun z => nomatch z) fun tk => ⟨.bl b, H, I.tok tk, rfl, q⟩
/-- e.f of such an exception -/
def tXv (K : PySem.W.Frag) (f : Str) (te : TE) : TE := fun σ H Q => te σ H fun x H1 => ∃ (a D dd : Addr) (fs : List (Str × V)) (v : V), x = .ref a ∧ ExAt H1 a D dd fs ∧ ExcK K D ∧ PySem.W.findIn K (.ref D) f = some none ∧ fs.lookup f = some v ∧ Q v H1
theorem pe_xv {e : Expr} {te : TE} {pos : Pos} {f : Str} (he : PE X e te) (hb : attributeBase e f X.env (eval e X.env) = eval e X.env := by rfl) : PE X (.Attribute e f pos) (tXv X.K f te) := by
  refine ⟨fun pins s σ H Q I h => attr_of hb (thn (he.run pins s σ H _ I h) fun u s1 w => ?_)⟩
  obtain ⟨x, H1, I1, rx, a, D, dd, fs, v, ex, hA, T, hno, l, q⟩ := w
  subst ex
  cases rx
  obtain ⟨ox, od, mA, J, hl, hr⟩ := exAt_inst I1 hA
  obtain ⟨u, hu, ru⟩ := RelO.some_of (v := v) (o := mA f) (l ▸ hr f)
  exact HandSPX.exc_get I1.kIn J T.hg T.hk T.hs (PySem.W.findObj_own T.hd hno rfl ((hl f).trans (congrArg some hu))) (handed_of ru) ⟨v, H1, I1.tok _, ru, q⟩
end
/-! ### 3. list.count of flat things -/
section
variable {X : Cx}
theorem count_eqU {x : V} : ∀ {xs : List V} {us : List Value}, Vals xs us → xs.all flatV = true → us.countP (eqU x) = xs.countP fun y => eqV y x
  | _, _, .nil, _ => rfl
  | _, _, .cons r t, h => by
    have h' := Bool.and_eq_true_iff.mp (List.all_cons ▸ h)
    rw [List.countP_cons, List.countP_cons, count_eqU t h'.2, eqU_of r h'.1]
def rCntF (K : PySem.W.Frag) : V → List V → Hp → VK → Prop := fun x xs H Q => ∃ (p : Addr) (ys : List V) (y : V), x = .ref p ∧ xs = [y] ∧ SqL K H p ys ∧ flatV y = true ∧ ys.all flatV = true ∧ Q (.int (ys.countP fun z => eqV z y : Nat)) H
theorem mt_countF : MtR X "list.count" (rCntF X.K) := by
  intro pins s σ H x xs v us Q I rx rxs h
  obtain ⟨p, ys, y, rfl, rfl, hs, fy, fys, q⟩ := h
  cases rx
  obtain ⟨u, rfl, ru⟩ := rxs.one
  obtain ⟨its, rv, ⟨⟨cls, dd, data, sl⟩, n, ho, hc, hdn, hd⟩, hlen⟩ := I.list hs
  simp only at hc hd
  subst hc hd
  refine call_meets PySem.F.slot_list_count ⟨_, ho, rfl⟩ PySem.F.entry_list_count (PySem.F.args_list_count_2 _ _)
    (SeqAt.list_countAt p its.toArray n dd sl u (eqU y)) ⟨ho, fun z hz => mem_eqAt ru fy rv fys z (by simpa using hz), ?_⟩
  exact ⟨.int (ys.countP fun z => eqV z y : Nat), H, I.tok _, ⟨s.toks, by rw [← count_eqU rv fys] <;> rfl⟩, q⟩
end
/-! ### 4. len(o), o == p, o != p of own instances, by their own defs -/
section
variable {X : Cx} {CX : CXT} {C f : Addr} {k : Nat} {fd : FuncData} {ps : List Str} {sp : Sp} {E : XK}
def rLenI (C : Addr) (sp : Sp) (E : XK) : List V → Hp → VK → Prop := fun xs H Q => ∃ (a dx : Addr) (fs : List (Str × V)), xs = [.ref a] ∧ H a = some (.ins C dx fs) ∧ sp [.ref a] H (fun v H' => ∃ n : Int, v = .int n ∧ 0 ≤ n ∧ n < 2 ^ 63 ∧ Q (.int n) H') E
theorem call_lenI (F : FnOk X.prog X.w X.K X.mg X.base CX k f fd ps sp) (hs : PySem.W.findIn X.K (.ref C) "__len__" = some (some (.ref f))) (hf : PySem.W.isFn X.K (.ref f) = true) (hr : Room (k + 1) X.A) (hb : Binds X.K fd ps []) (hx : Passes CX X E) :
    CallR X (.builtin "len") (rLenI C sp E) := by
  intro pins s σ H xs us Q I r h
  obtain ⟨a, dx, fs, rfl, ha, hsp⟩ := h
  obtain ⟨u, rfl, ru⟩ := vals1 r
  cases ru
  obtain ⟨mA, J, _⟩ := ins_get I.hok ha
  obtain ⟨od, J, _⟩ := J.look
  obtain ⟨m, hF⟩ := I.fr
  refine PySem.W.len_K hF I.ok.mod.kin J hs hf ?_
  have hl := F.len _ _ _ _ hsp
  have r2 : Vals [V.ref a] [Value.ref a] := .cons rfl .nil
  have b2 := hb s [.ref a] I.kIn (by simpa using hl)
  rw [List.append_nil] at b2
  refine wpAny_call (codeAny_mono (F.run X.A.in1 X.stack s H ⟨[.ref a], []⟩ [.ref a] [.ref a] _ E hr.in1 I.env0.in1 b2 r2 hsp) fun r s' hq => ?_)
  cases r with
  | error e => exact hx pins σ H s e s' I hq
  | ok fl =>
    cases fl with
    | ret w =>
      obtain ⟨z, H', I', rz, n, ez, h0, h1, q⟩ := I.after hq
      subst ez
      obtain ⟨t, rfl⟩ := rz
      exact ⟨⟨h0, h1⟩, ⟨.int n, H', I'.tok _, ⟨_, rfl⟩, q⟩⟩
    | next => exact False.elim hq
    | brk => exact False.elim hq
    | cont => exact False.elim hq
def rEqI (C : Addr) (sp : Sp) (E : XK) : R2 := fun x y H Q => ∃ (a b dx dy : Addr) (fs gs : List (Str × V)), x = .ref a ∧ y = .ref b ∧ H a = some (.ins C dx fs) ∧ H b = some (.ins C dy gs) ∧ sp [.ref a, .ref b] H (fun v H' => ∃ t, v = .bl t ∧ Q (.bl t) H') E
theorem op_eqI (F : FnOk X.prog X.w X.K X.mg X.base CX k f fd ps sp) (hs : PySem.W.findIn X.K (.ref C) "__eq__" = some (some (.ref f))) (hf : PySem.W.isFn X.K (.ref f) = true) (hr : Room k X.A) (hb : Binds X.K fd ps []) (hx : Passes CX X E) :
    OpR X (compareOp .Eq) (rEqI C sp E) := by
  intro pins s σ H x y v u Q I rx ry h
  obtain ⟨a, b, dx, dy, fs, gs, rfl, rfl, ha, hb', hsp⟩ := h
  cases rx
  cases ry
  obtain ⟨mA, J, _⟩ := ins_get I.hok ha
  obtain ⟨mB, J', _⟩ := ins_get I.hok hb'
  obtain ⟨od, J, _⟩ := J.look
  obtain ⟨od', J', _⟩ := J'.look
  obtain ⟨m, hF⟩ := I.fr
  show wpAny (model X.prog X.w) X.A (richCompare .Eq (.ref a) (.ref b)) _ _ _
  refine PySem.W.cmp_K (op := .Eq) (tb := .ref C) hr.units0 hF I.ok.mod.kin J J'.type (by simp [PySem.W.notFirst]) hs hf ?_
  have hl := F.len _ _ _ _ hsp
  have r2 : Vals [V.ref a, V.ref b] [Value.ref a, Value.ref b] := .cons rfl (.cons rfl .nil)
  have b2 := hb s [.ref a, .ref b] I.kIn (by simpa using hl)
  rw [List.append_nil] at b2
  refine wpAny_call (codeAny_mono (F.run X.A X.stack s H ⟨[.ref a, .ref b], []⟩ [.ref a, .ref b] [.ref a, .ref b] _ E hr I.env0 b2 r2 hsp) fun r s' hq => ?_)
  cases r with
  | error e => exact hx pins σ H s e s' I hq
  | ok fl =>
    cases fl with
    | ret w =>
      obtain ⟨z, H', I', rz, t, ez, q⟩ := I.after hq
      subst ez
      cases rz
      exact ⟨.bl t, H', I', rfl, q⟩
    | next => exact False.elim hq
    | brk => exact False.elim hq
    | cont => exact False.elim hq
end
end WM
set_option Elab.async false
set_option linter.all false
set_option maxRecDepth 100000
set_option maxHeartbeats 2000000
namespace WM
open PySem PySem.Spec PyProof.Rows L2
/-! ### 1. how the heap goes on: all but fp is kept -/
structure Kp (fp : List Addr) (H H' : Hp) : Prop where
  keep : ∀ b o, H b = some o → b ∉ fp → H' b = some o
  tups : ∀ b xs, H b = some (.tup xs) → H' b = some (.tup xs)
  free : ∀ b, H' b = none → H b = none
section
variable {fp fq : List Addr} {H H1 H2 : Hp} {a b p : Addr} {o u : HO}
theorem Kp.refl (fp : List Addr) (H : Hp) : Kp fp H H := ⟨fun _ _ h _ => h, fun _ _ h => h, fun _ h => h⟩
theorem Kp.mono (k : Kp fp H H1) (h : ∀ b ∈ fp, b ∈ fq) : Kp fq H H1 := ⟨fun b o e n => k.keep b o e fun z => n (h b z), k.tups, k.free⟩
theorem Kp.nil (k : Kp [] H H1) : Kp fp H H1 := k.mono fun _ z => nomatch z
theorem Kp.trans (k : Kp fp H H1) (l : Kp fp H1 H2) : Kp fp H H2 :=
  ⟨fun b o e n => l.keep b o (k.keep b o e n) n, fun b xs e => l.tups b xs (k.tups b xs e), fun b e => k.free b (l.free b e)⟩
theorem Kp.step (l : Kp fq H1 H2) (k : Kp fp H H1) (h : ∀ b ∈ fq, b ∈ fp) : Kp fp H H2 := k.trans (l.mono h)
/-- what was not there at H may change | comes new -/
theorem Kp.updFree (k : Kp fp H H1) (h : H a = none) : Kp fp H (upd H1 a o) :=
  ⟨fun b u e n => (upd_ne (ne_of_none e h)).trans (k.keep b u e n), fun b xs e => (upd_ne (ne_of_none e h)).trans (k.tups b xs e), fun b e => k.free b (by
    by_cases z : b = a
    · rw [z, upd_same] at e; cases e
    · rw [upd_ne z] at e; exact e)⟩
theorem Kp.updNew (k : Kp fp H H1) (h : H1 a = none) : Kp fp H (upd H1 a o) := k.updFree (k.free a h)
/-- no tuple -/
def NoT (o : Option HO) : Prop := ∀ xs, o ≠ some (.tup xs)
theorem NoT.lst {xs : List V} (h : H a = some (.lst xs)) : NoT (H a) := fun ys e => by rw [h] at e; cases e
theorem NoT.ins {C dx : Addr} {fs : List (Str × V)} (h : H a = some (.ins C dx fs)) : NoT (H a) := fun ys e => by rw [h] at e; cases e
theorem Kp.updIn (k : Kp fp H H1) (h : a ∈ fp) (n : NoT (H a)) : Kp fp H (upd H1 a o) :=
  ⟨fun b u e m => (upd_ne (fun z : b = a => m (by rw [z]; exact h))).trans (k.keep b u e m), fun b xs e => (upd_ne (fun z : b = a => n xs (by rw [← z]; exact e))).trans (k.tups b xs e), fun b e => k.free b (by
    by_cases z : b = a
    · rw [z, upd_same] at e; cases e
    · rw [upd_ne z] at e; exact e)⟩
theorem Kp.get (k : Kp fp H H1) (h : H b = some o) (n : b ∉ fp) : H1 b = some o := k.keep b o h n
theorem Kp.tup {xs : List V} (k : Kp fp H H1) (h : H b = some (.tup xs)) : H1 b = some (.tup xs) := k.tups b xs h
theorem Kp.sqL {K : PySem.W.Frag} {xs : List V} (k : Kp fp H H1) (h : SqL K H b xs) (n : b ∉ fp) : SqL K H1 b xs := by
  rcases h with (h | ⟨o, h⟩) | h
  · exact .inl (.inl (k.keep _ _ h n))
  · exact .inl (.inr ⟨o, k.keep _ _ h n⟩)
  · exact .inr h
theorem upd_getN (h : H p = none) (e : H a = some u) : upd H p o a = some u := (upd_ne (ne_of_none e h)).trans e
theorem upd_getD (h : a ≠ p) (e : H a = some u) : upd H p o a = some u := (upd_ne h).trans e
theorem ne_kind {o u : HO} (h : H a = some o) (h' : H b = some u) (d : o ≠ u) : a ≠ b := ne_of h h' d
theorem ne_fresh (h' : H b = none) (h : H a = some o) : a ≠ b := ne_of_none h h'
theorem ne_new (h : H a = some o) (h' : H b = none) : a ≠ b := ne_of_none h h'
theorem ni1 (h : a ≠ b) : a ∉ [b] := fun z => h (List.mem_singleton.mp z)
theorem ni2 {c : Addr} (h : a ≠ b) (h2 : a ≠ c) : a ∉ [b, c] := fun z => by
  rcases List.mem_cons.mp z with z | z
  · exact h z
  · exact h2 (List.mem_singleton.mp z)
theorem ni3 {c d : Addr} (h : a ≠ b) (h2 : a ≠ c) (h3 : a ≠ d) : a ∉ [b, c, d] := fun z => by
  rcases List.mem_cons.mp z with z | z
  · exact h z
  · rcases List.mem_cons.mp z with z | z
    · exact h2 z
    · exact h3 (List.mem_singleton.mp z)
end
/-! ### 2. data of tuples alone -/
mutual
inductive Tp (H : Hp) : V → PyData → Prop
  | non : Tp H .non .none
  | bl (b : Bool) : Tp H (.bl b) (.bool b)
  | int (i : Int) : Tp H (.int i) (.int i)
  | str (x : Str) : Tp H (.str x) (.str x)
  | tup {a : Addr} {xs : List V} {ds : List PyData} : H a = some (.tup xs) → TpAll H xs ds → Tp H (.ref a) (.tuple ds)
inductive TpAll (H : Hp) : List V → List PyData → Prop
  | nil : TpAll H [] []
  | cons {v : V} {vs : List V} {d : PyData} {ds : List PyData} : Tp H v d → TpAll H vs ds → TpAll H (v :: vs) (d :: ds)
end
mutual
theorem Tp.dp {K : PySem.W.Frag} {H : Hp} : ∀ {d : PyData} {v : V}, Tp H v d → Dp K H v d
  | .none, _, h => by cases h; exact .non
  | .bool _, _, h => by cases h; exact .bl _
  | .int _, _, h => by cases h; exact .int _
  | .str _, _, h => by cases h; exact .str _
  | .tuple _, _, h => by
    cases h with
    | tup e t => exact .tup (SqT.of e) t.dp
  | .list _, _, h => by cases h
  | .dict _, _, h => by cases h
theorem TpAll.dp {K : PySem.W.Frag} {H : Hp} : ∀ {ds : List PyData} {vs : List V}, TpAll H vs ds → DpAll K H vs ds
  | [], _, h => by cases h; exact .nil
  | _ :: _, _, h => by
    cases h with
    | cons a b => exact .cons a.dp b.dp
end
mutual
theorem Tp.kp {fp : List Addr} {H H' : Hp} (k : Kp fp H H') : ∀ {d : PyData} {v : V}, Tp H v d → Tp H' v d
  | .none, _, h => by cases h; exact .non
  | .bool _, _, h => by cases h; exact .bl _
  | .int _, _, h => by cases h; exact .int _
  | .str _, _, h => by cases h; exact .str _
  | .tuple _, _, h => by
    cases h with
    | tup e t => exact .tup (k.tups _ _ e) (TpAll.kp k t)
  | .list _, _, h => by cases h
  | .dict _, _, h => by cases h
theorem TpAll.kp {fp : List Addr} {H H' : Hp} (k : Kp fp H H') : ∀ {ds : List PyData} {vs : List V}, TpAll H vs ds → TpAll H' vs ds
  | [], _, h => by cases h; exact .nil
  | _ :: _, _, h => by
    cases h with
    | cons a b => exact .cons (Tp.kp k a) (TpAll.kp k b)
end
/-- small enough to be compared -/
structure Shp (n : Nat) (d : PyData) : Prop where
  lay : d.canLay0 = true
  dep : d.depth ≤ n
theorem Shp.ok {n : Nat} {d : PyData} (h : Shp n d) (hn : n ≤ 64) : SeqAt.shaped d = true := Bool.and_eq_true_iff.mpr ⟨h.lay, decide_eq_true (Nat.le_trans h.dep hn)⟩
theorem Shp.mono {n m : Nat} {d : PyData} (h : Shp n d) (hn : n ≤ m) : Shp m d := ⟨h.lay, Nat.le_trans h.dep hn⟩
theorem shp_all {n : Nat} : ∀ {ds : List PyData}, (∀ d ∈ ds, Shp n d) → PyData.canLayAll0 ds = true ∧ PyData.depthAll ds ≤ n
  | [], _ => ⟨rfl, Nat.zero_le _⟩
  | d :: ds, h => by
    have h1 := h d List.mem_cons_self
    have h2 := shp_all (n := n) (ds := ds) fun x hx => h x (List.mem_cons_of_mem _ hx)
    refine ⟨?_, ?_⟩
    · simp only [PyData.canLayAll0, h1.lay, h2.1, Bool.and_self]
    · simp only [PyData.depthAll]
      exact Nat.max_le.mpr ⟨h1.dep, h2.2⟩
theorem Shp.list {n : Nat} {ds : List PyData} (h : ∀ d ∈ ds, Shp n d) : Shp (n + 1) (.list ds) := by
  obtain ⟨h1, h2⟩ := shp_all h
  exact ⟨by simpa only [PyData.canLay0] using h1, by simp only [PyData.depth]; omega⟩
theorem Shp.tuple {n : Nat} {ds : List PyData} (h : ∀ d ∈ ds, Shp n d) : Shp (n + 1) (.tuple ds) := by
  obtain ⟨h1, h2⟩ := shp_all h
  exact ⟨by simpa only [PyData.canLay0] using h1, by simp only [PyData.depth]; omega⟩
theorem Shp.int {n : Nat} (i : Int) : Shp n (.int i) := ⟨by simp only [PyData.canLay0], by simp only [PyData.depth]; omega⟩
theorem Shp.none {n : Nat} : Shp n .none := ⟨by simp only [PyData.canLay0], by simp only [PyData.depth]; omega⟩
theorem Shp.bool {n : Nat} (b : Bool) : Shp n (.bool b) := ⟨by simp only [PyData.canLay0], by simp only [PyData.depth]; omega⟩
theorem Shp.str {n : Nat} {x : Str} (h : PyData.strOk x = true) : Shp n (.str x) := ⟨by simpa only [PyData.canLay0] using h, by simp only [PyData.depth]; omega⟩
end WM
set_option Elab.async false
set_option linter.all false
set_option maxRecDepth 100000
set_option maxHeartbeats 2000000
namespace WM
open PySem PySem.Spec PyProof.Rows L2
/-! ### 1. defs by name: as they stand behind the top; what they promise -/
structure DefAt (K : PySem.W.Frag) (mg : Str → Option Value) (x : Str) (st : Stmt) (ps : List Str) : Prop where
  ex : ∃ (f : Addr) (fd : FuncData), Fun K x x st f fd ∧ mg x = some (.ref f) ∧ Binds K fd ps []
structure MetAt (K : PySem.W.Frag) (C : Addr) (m qual : Str) (st : Stmt) (ps : List Str) : Prop where
  ex : ∃ (f : Addr) (fd : FuncData), Fun K m qual st f fd ∧ PySem.W.findIn K (.ref C) m = some (some (.ref f)) ∧ PySem.W.isFn K (.ref f) = true ∧ Binds K fd ps []
structure Def (P : Program) (w : World) (K : PySem.W.Frag) (mg : Str → Option Value) (base : Heap) (CX : CXT) (x : Str) (k : Nat) (sp : Sp) : Prop where
  ex : ∃ (f : Addr) (fd : FuncData) (ps : List Str), FnOk P w K mg base CX k f fd ps sp ∧ mg x = some (.ref f) ∧ PySem.W.keepIn K (.ref f) = true ∧ Binds K fd ps []
structure Met (P : Program) (w : World) (K : PySem.W.Frag) (mg : Str → Option Value) (base : Heap) (CX : CXT) (C : Addr) (m : Str) (k : Nat) (sp : Sp) : Prop where
  ex : ∃ (f : Addr) (fd : FuncData) (ps : List Str), FnOk P w K mg base CX k f fd ps sp ∧ PySem.W.findIn K (.ref C) m = some (some (.ref f)) ∧ PySem.W.isFn K (.ref f) = true ∧ PySem.W.keepIn K (.ref f) = true ∧ Binds K fd ps []
/-- a statement's reading with its ends told one by one: behind it, its return, break, continue -/
def Run (t : TS) (N : L2.St → Hp → Prop) (R : VK) (B C : L2.St → Hp → Prop) (σ : L2.St) (H : Hp) : Prop := t { nx := N, rt := R, bk := B, ct := C } σ H
/-- a def's body is run from its arguments -/
def Body (t : TS) (N : List Str) (vs : List V) (H : Hp) (Q : VK) : Prop := Run t (fun _ H' => Q .non H') Q (fun _ _ => False) (fun _ _ => False) (start N vs) H
section
variable {P : Program} {w : World} {K : PySem.W.Frag} {mg : Str → Option Value} {base : Heap} {C : Addr} {x m qual : Str} {st : Stmt} {ps N : List Str} {k : Nat} {sp : Sp}
theorem DefAt.ok (D : DefAt K mg x st ps) (S : FnScope N ps (defScope st)) (len : ∀ vs H Q E, sp vs H Q E → vs.length = ps.length)
    (hb : ∀ (f : Addr) (cdv : Value) (A : Around) (outer : List Env) (s : Shared) (H : Hp) (vs : List V) (Q : VK) (E : XK), Room k (A.deeper (envOfC x (defScope st) s.heap.objs.size f cdv)) → sp vs H Q E →
      ∃ t, PSs (cxOf CX0 P w K mg base N x (defScope st) f cdv A outer s H E).nox (defBody st) t ∧ Body t N vs H Q) : Def P w K mg base CX0 x (k + 1) sp := by
  obtain ⟨f, fd, F, hm, b⟩ := D.ex
  exact ⟨f, fd, ps, F.ok S len fun cdv A outer s H vs Q E hr h => hb f cdv A outer s H vs Q E hr h, hm, F.kp, b⟩
theorem DefAt.okX (D : DefAt K mg x st ps) (S : FnScope N ps (defScope st)) (len : ∀ vs H Q E, sp vs H Q E → vs.length = ps.length)
    (hb : ∀ (f : Addr) (cdv : Value) (A : Around) (outer : List Env) (s : Shared) (H : Hp) (vs : List V) (Q : VK) (E : XK), Room k (A.deeper (envOfC x (defScope st) s.heap.objs.size f cdv)) → sp vs H Q E →
      ∃ t, PSs (cxOf (L2.CX P w) P w K mg base N x (defScope st) f cdv A outer s H E) (defBody st) t ∧ Body t N vs H Q) : Def P w K mg base (L2.CX P w) x (k + 1) sp := by
  obtain ⟨f, fd, F, hm, b⟩ := D.ex
  exact ⟨f, fd, ps, F.okX S len fun cdv A outer s H vs Q E hr h => hb f cdv A outer s H vs Q E hr h, hm, F.kp, b⟩
theorem MetAt.ok (D : MetAt K C m qual st ps) (S : FnScope N ps (defScope st)) (len : ∀ vs H Q E, sp vs H Q E → vs.length = ps.length)
    (hb : ∀ (f : Addr) (cdv : Value) (A : Around) (outer : List Env) (s : Shared) (H : Hp) (vs : List V) (Q : VK) (E : XK), Room k (A.deeper (envOfC qual (defScope st) s.heap.objs.size f cdv)) → sp vs H Q E →
      ∃ t, PSs (cxOf CX0 P w K mg base N qual (defScope st) f cdv A outer s H E).nox (defBody st) t ∧ Body t N vs H Q) : Met P w K mg base CX0 C m (k + 1) sp := by
  obtain ⟨f, fd, F, hf, hi, b⟩ := D.ex
  exact ⟨f, fd, ps, F.ok S len fun cdv A outer s H vs Q E hr h => hb f cdv A outer s H vs Q E hr h, hf, hi, F.kp, b⟩
theorem MetAt.okX (D : MetAt K C m qual st ps) (S : FnScope N ps (defScope st)) (len : ∀ vs H Q E, sp vs H Q E → vs.length = ps.length)
    (hb : ∀ (f : Addr) (cdv : Value) (A : Around) (outer : List Env) (s : Shared) (H : Hp) (vs : List V) (Q : VK) (E : XK), Room k (A.deeper (envOfC qual (defScope st) s.heap.objs.size f cdv)) → sp vs H Q E →
      ∃ t, PSs (cxOf (L2.CX P w) P w K mg base N qual (defScope st) f cdv A outer s H E) (defBody st) t ∧ Body t N vs H Q) : Met P w K mg base (L2.CX P w) C m (k + 1) sp := by
  obtain ⟨f, fd, F, hf, hi, b⟩ := D.ex
  exact ⟨f, fd, ps, F.okX S len fun cdv A outer s H vs Q E hr h => hb f cdv A outer s H vs Q E hr h, hf, hi, F.kp, b⟩
end
/-! ### 2. rules for calls of such defs -/
def tCal (sp : Sp) (E : XK) (t : TA) : TE := fun σ H Q => t σ H fun vs H1 => sp vs H1 Q E
def tMet (C : Addr) (m : Str) (sp : Sp) (E : XK) (ta : TE) (t : TA) : TE := fun σ H Q => ta σ H fun x H1 => ∃ a dx fs, x = .ref a ∧ H1 a = some (.ins C dx fs) ∧ fs.lookup m = none ∧ t σ H1 fun vs H2 => sp (x :: vs) H2 Q E
def tNewI (C : Addr) (sp : Sp) (E : XK) (t : TA) : TE := fun σ H Q => t σ H fun vs H1 => ∀ x dx, H1 x = none → H1 dx = none → dx ≠ x →
  sp (.ref x :: vs) (upd (upd H1 dx (.own x)) x (.ins C dx [])) (fun v H2 => v = .non ∧ Q (.ref x) H2) E
/-- .. where what is raised is wished for at the slots as they stand -/
def tCalS (sp : Sp) (E : L2.St → XK) (t : TA) : TE := fun σ H Q => t σ H fun vs H1 => sp vs H1 Q (E σ)
def tMetS (C : Addr) (m : Str) (sp : Sp) (E : L2.St → XK) (ta : TE) (t : TA) : TE := fun σ H Q => ta σ H fun x H1 => ∃ a dx fs, x = .ref a ∧ H1 a = some (.ins C dx fs) ∧ fs.lookup m = none ∧ t σ H1 fun vs H2 => sp (x :: vs) H2 Q (E σ)
theorem PE.of {X : Cx} {e : Expr} {t u : TE} (h : PE X e t) (k : ∀ σ H Q, u σ H Q → t σ H Q) : PE X e u := ⟨fun pins s σ H Q I q => h.run pins s σ H Q I (k σ H Q q)⟩
theorem TA.nilApp {t : TA} {σ : L2.St} {H : Hp} {R : List V → Hp → Prop} (h : t σ H R) (k : ∀ vs H', R vs H' → R vs H') : t σ H R := h
section
variable {X : Cx} {CX : CXT} {C : Addr} {x m : Str} {k : Nat} {sp : Sp} {E : XK} {p pos apos : Pos} {e o : Expr} {es : List Expr} {t : TA} {ta : TE}
theorem app_nil (sp : Sp) : (fun vs H1 (Q : VK) (E : XK) => sp (vs ++ []) H1 Q E) = fun vs H1 Q E => sp vs H1 Q E := by
  funext vs H1 Q E
  rw [List.append_nil]
theorem pe_def (D : Def X.prog X.w X.K X.mg X.base CX x k sp) (hr : Room k X.A) (hx : Passes CX X E) (ha : PA X (e :: es) t) (hg : Gl X x := by rfl) (hdb : (x == ("__debug__" : Str)) = false := by decide)
    (he : starEach (e :: es) X.env = (false, eval e X.env) :: starEach es X.env := by rfl) (hpl : (backTo pos (starEach es X.env)).any (·.1) = false := by rfl) :
    PE X (.Call (.Name x p) (e :: es) [] pos) (tCal sp E t) := by
  obtain ⟨f, fd, ps, F, hm, hk, hb⟩ := D.ex
  refine PE.of (pe_call F hr hg hm hk hb .nil hx ha hdb he hpl) fun σ H Q q => ?_
  have e := app_nil sp
  show t σ H fun vs H1 => (fun vs H1 (Q : VK) (E : XK) => sp (vs ++ []) H1 Q E) vs H1 Q E
  rw [e]
  exact q
theorem pe_def0 (D : Def X.prog X.w X.K X.mg X.base CX x k sp) (hr : Room k X.A) (hx : Passes CX X E) (hg : Gl X x := by rfl) (hdb : (x == ("__debug__" : Str)) = false := by decide) : PE X (.Call (.Name x p) [] [] pos) (tCal sp E tNil) := by
  obtain ⟨f, fd, ps, F, hm, hk, hb⟩ := D.ex
  exact pe_call0 F hr hg hm hk hb .nil hx hdb
theorem pe_met {pl : Sem Bool} (D : Met X.prog X.w X.K X.mg X.base CX C m k sp) (c : Cls X.K C) (hr : Room k X.A) (hx : Passes CX X E) (he : PE X o ta) (ha : PA X (e :: es) t)
    (hst : starEach (e :: es) X.env = (false, eval e X.env) :: starEach es X.env := by rfl) (hpl : (backTo pos (starEach es X.env)).any (·.1) = false := by rfl)
    (ht : eval (.Call (.Attribute o m apos) (e :: es) [] pos) X.env = (do
      let ov ← eval o X.env
      standAt apos.atName
      let (f, first) ← holding [ov] (getMethod ov m pl)
      callWith pos f first (backTo pos (starEach (e :: es) X.env)) (backToKw pos (keywordEach [] X.env))) := by rfl) : PE X (.Call (.Attribute o m apos) (e :: es) [] pos) (tMet C m sp E ta t) := by
  obtain ⟨f, fd, ps, F, hf, hi, hk, hb⟩ := D.ex
  refine PE.of (pe_meth he c ⟨hf, hi, hk⟩ F hr hb .nil hx ha hst hpl ht) fun σ H Q q => ?_
  have e : (fun (y : V) vs H1 (Q : VK) (E : XK) => sp (y :: (vs ++ [])) H1 Q E) = fun y vs H1 Q E => sp (y :: vs) H1 Q E := by
    funext y vs H1 Q E
    rw [List.append_nil]
  show ta σ H fun x H1 => ∃ a dx fs, x = .ref a ∧ H1 a = some (.ins C dx fs) ∧ fs.lookup m = none ∧ t σ H1 fun vs H2 => (fun (y : V) vs H1 (Q : VK) (E : XK) => sp (y :: (vs ++ [])) H1 Q E) x vs H2 Q E
  rw [e]
  exact q
theorem pe_met0 {pl : Sem Bool} (D : Met X.prog X.w X.K X.mg X.base CX C m k sp) (c : Cls X.K C) (hr : Room k X.A) (hx : Passes CX X E) (he : PE X o ta)
    (ht : eval (.Call (.Attribute o m apos) [] [] pos) X.env = (do
      let ov ← eval o X.env
      standAt apos.atName
      let (f, first) ← holding [ov] (getMethod ov m pl)
      callWith pos f first (backTo pos (starEach [] X.env)) (backToKw pos (keywordEach [] X.env))) := by rfl) : PE X (.Call (.Attribute o m apos) [] [] pos) (tMet C m sp E ta tNil) := by
  obtain ⟨f, fd, ps, F, hf, hi, hk, hb⟩ := D.ex
  exact pe_meth0 he c ⟨hf, hi, hk⟩ F hr hb .nil hx ht
theorem pe_defS {E : L2.St → XK} (D : Def X.prog X.w X.K X.mg X.base CX x k sp) (hr : Room k X.A) (hx : ∀ σ, PassesAt CX X σ (E σ)) (ha : PA X (e :: es) t) (hg : Gl X x := by rfl) (hdb : (x == ("__debug__" : Str)) = false := by decide)
    (he : starEach (e :: es) X.env = (false, eval e X.env) :: starEach es X.env := by rfl) (hpl : (backTo pos (starEach es X.env)).any (·.1) = false := by rfl) :
    PE X (.Call (.Name x p) (e :: es) [] pos) (tCalS sp E t) := by
  obtain ⟨f, fd, ps, F, hm, hk, hb⟩ := D.ex
  refine ⟨fun pins s σ H Q I h => ?_⟩
  refine wpAny_Call_Name_kw (ld_glob I hg hm ?_ hdb)
  refine PySem.W.callWith_K (h₀ := X.base) I.ok.mod.kin hk (thn (ha.run pos pins s σ H _ I h) fun us s1 ⟨vs, H1, I1, r, q⟩ => ⟨I1.kIn, ?_⟩) he hpl
  exact run_fnS F hr hb (hx σ) I1 r q
theorem pe_metS {E : L2.St → XK} {pl : Sem Bool} (D : Met X.prog X.w X.K X.mg X.base CX C m k sp) (c : Cls X.K C) (hr : Room k X.A) (hx : ∀ σ, PassesAt CX X σ (E σ)) (he : PE X o ta) (ha : PA X (e :: es) t)
    (hst : starEach (e :: es) X.env = (false, eval e X.env) :: starEach es X.env := by rfl) (hpl : (backTo pos (starEach es X.env)).any (·.1) = false := by rfl)
    (ht : eval (.Call (.Attribute o m apos) (e :: es) [] pos) X.env = (do
      let ov ← eval o X.env
      standAt apos.atName
      let (f, first) ← holding [ov] (getMethod ov m pl)
      callWith pos f first (backTo pos (starEach (e :: es) X.env)) (backToKw pos (keywordEach [] X.env))) := by rfl) : PE X (.Call (.Attribute o m apos) (e :: es) [] pos) (tMetS C m sp E ta t) := by
  obtain ⟨f, fd, ps, F, hf, hi, hk, hb⟩ := D.ex
  refine ⟨fun pins s σ H Q I h => PySem.W.methodCall_KW (thn (he.run pins s σ H _ I h) fun u s1 w => ?_) ht⟩
  obtain ⟨x, H1, I1, rx, a, dx, fs, ex, ea, l, q⟩ := w
  subst ex
  cases rx
  refine getmeth_ok I1 ea c ⟨hf, hi, hk⟩ l ?_
  refine PySem.W.callWith_K (first := [.ref a]) (h₀ := X.base) I.ok.mod.kin hk (thn (ha.run pos pins s1 σ H1 _ I1 q) fun us s2 ⟨vs, H2, I2, r, q2⟩ => ⟨I2.kIn, ?_⟩) hst hpl
  exact run_fnS (us := .ref a :: us) (vs := .ref a :: vs) F hr hb (hx σ) I2 (.cons rfl r) q2
/-- what the top says of a class that is made by its own __init__ -/
structure ClsMk (K : PySem.W.Frag) (mg : Str → Option Value) (x : Str) (C : Addr) : Prop where
  gC : mg x = some (.ref C)
  cl : Cls K C
  makes : PySem.W.makesIn K C = true
  kp : PySem.W.keepIn K (.ref C) = true
theorem pe_new0 (D : Met X.prog X.w X.K X.mg X.base CX C "__init__" k sp) (M : ClsMk X.K X.mg x C) (hr : Room (k + 1) X.A) (hx : Passes CX X E) (hg : Gl X x := by rfl) (hdb : (x == ("__debug__" : Str)) = false := by decide) :
    PE X (.Call (.Name x p) [] [] pos) (tNewI C sp E tNil) := by
  obtain ⟨f, fd, ps, F, hf, hi, hk, hb⟩ := D.ex
  exact pe_make0 ⟨M.makes, hf, hi, M.kp⟩ F hr hg M.gC hb .nil hx hdb
end
end WM
set_option Elab.async false
set_option linter.all false
set_option maxRecDepth 100000
set_option maxHeartbeats 2000000
namespace WM
open PySem PySem.Spec PyProof.Rows L2
/-! ### 1. readings by name -/
def rAddA : R2 := fun x y H Q => ((∃ i j, x = .int i ∧ y = .int j ∧ Q (.int (i + j)) H) ∨ (∃ i j, x = .str i ∧ y = .str j ∧ i.length + j.length ≤ sizeLine ∧ Q (.str (i ++ j)) H)) ∨ rCat x y H Q
def rCmpI (p : Int → Int → Bool) : R2 := rI0 fun i j => .bl (p i j)
def rSubI : R2 := rI0 fun i j => .int (i - j)
def rMulI : R2 := rI CMul fun i j => .int (i * j)
def rModI : R2 := rI (fun _ j => 0 < j) fun i j => .int (i % j)
def rDivI : R2 := rI CDiv fun i j => .int (i / j)
def rPowI : R2 := rI CPow fun i j => .int (i ^ j.toNat)
def rMulS : R2 := fun x y H Q => ∃ (z : Str) (n : Int), x = .str z ∧ y = .int n ∧ 2 ≤ n ∧ n ≤ 1000 ∧ 1 ≤ z.length ∧ z.length ≤ 1000 ∧ Q (.str ⟨(List.replicate n.toNat z.cps).foldl (· ++ ·) #[]⟩) H
def rEqA (K : PySem.W.Frag) : R2 := fun x y H Q => rEq x y H Q ∨ rEqD K x y H Q
def rNeA (K : PySem.W.Frag) : R2 := fun x y H Q => rNe x y H Q ∨ rNeD K x y H Q
def rIsNo : R2 := fun x y H Q => y = .non ∧ Q (.bl (decide (x = .non))) H
def rNotNo : R2 := fun x y H Q => y = .non ∧ Q (.bl (!decide (x = .non))) H
def rSlA (K : PySem.W.Frag) : V → Option Int → Option Int → Hp → VK → Prop := fun x lo hi H Q => rSlL K x lo hi H Q ∨ rSlS x lo hi H Q
def rLenA (K : PySem.W.Frag) : List V → Hp → VK → Prop := fun xs H Q => (∃ p ys, xs = [.ref p] ∧ (SqL K H p ys ∨ SqT K H p ys) ∧ Q (.int ys.length) H) ∨ ∃ z, xs = [.str z] ∧ z.length ≤ sizeLine ∧ Q (.int z.length) H
def rListA (K : PySem.W.Frag) : List V → Hp → VK → Prop := fun xs H Q => ∃ p ys, xs = [.ref p] ∧ (SqL K H p ys ∨ SqT K H p ys) ∧ ∀ l, H l = none → Q (.ref l) (upd H l (.lst ys))
def rStrI : List V → Hp → VK → Prop := fun xs H Q => ∃ i, xs = [.int i] ∧ i.natAbs.log2 < 1920 ∧ Q (.str (toString i)) H
def rMaxI : List V → Hp → VK → Prop := fun xs H Q => ∃ i j, xs = [.int i, .int j] ∧ Q (.int (if j > i then j else i)) H
def rMinI : List V → Hp → VK → Prop := fun xs H Q => ∃ i j, xs = [.int i, .int j] ∧ Q (.int (if j < i then j else i)) H
section
variable {X : Cx}
theorem op_addA : OpR X (binaryOp .Add) rAddA := (op_add.or op_add_str).or op_cat
theorem op_subI : OpR X (binaryOp .Sub) rSubI := op_sub
theorem op_mulI : OpR X (binaryOp .Mult) rMulI := op_mul
theorem op_modI : OpR X (binaryOp .Mod) rModI := op_mod
theorem op_divI : OpR X (binaryOp .FloorDiv) rDivI := op_fdiv
theorem op_powI : OpR X (binaryOp .Pow) rPowI := op_pow
theorem op_mulS : OpR X (binaryOp .Mult) rMulS := by
  intro pins s σ H x y v u Q I rx ry h
  obtain ⟨z, n, rfl, rfl, h2, h3, h4, h5, q⟩ := h
  obtain ⟨t, rfl⟩ := rx
  obtain ⟨t', rfl⟩ := ry
  have e1 : decide (n < -(2 ^ 63 : Int)) = false := decide_eq_false (by omega)
  have e2 : decide (n ≥ 2 ^ 63) = false := decide_eq_false (by omega)
  have n1 : (n == 1) = false := by simp; omega
  have n2 : (z.length == 0) = false := by simp; omega
  have hm : z.length * n.toNat ≤ 1000 * 1000 := Nat.mul_le_mul h5 (by omega)
  refine PySem.P.mul_str (by rw [e1, e2] <;> rfl) (fun _ _ hg => ?_) (fun _ _ => ?_) ?_
  · have q1 : (1000 : Int) ≤ (2 ^ 63 - 1) / n := by
      refine (Int.le_ediv_iff_mul_le (by omega)).mpr ?_
      omega
    omega
  · exact decide_eq_false (by rw [sizeLine_eq]; omega)
  · rw [if_neg (by omega), if_neg (by rw [n1, n2]; decide)]
    have hz : (Str.mk ((List.replicate n.toNat z.cps).foldl (· ++ ·) #[])).length ≤ sizeLine := by
      have len : ∀ (k : Nat) (acc : Array Nat), ((List.replicate k z.cps).foldl (· ++ ·) acc).size = acc.size + k * z.cps.size := by
        intro k
        induction k with
        | zero => intro acc; simp
        | succ k ih =>
          intro acc
          rw [List.replicate_succ, List.foldl_cons, ih, Array.size_append, Nat.succ_mul]
          omega
      show ((List.replicate n.toNat z.cps).foldl (· ++ ·) #[]).size ≤ sizeLine
      rw [len, sizeLine_eq]
      have hz' : n.toNat * z.cps.size = z.length * n.toNat := Nat.mul_comm _ _
      rw [hz']
      simp only [Array.size_empty]
      omega
    exact ⟨hz, ⟨.str _, H, I.tok _, ⟨_, rfl⟩, q⟩⟩
theorem op_ltI : OpR X (compareOp .Lt) (rCmpI fun i j => decide (i < j)) := op_lt
theorem op_leI : OpR X (compareOp .LtE) (rCmpI fun i j => decide (i ≤ j)) := op_le
theorem op_gtI : OpR X (compareOp .Gt) (rCmpI fun i j => decide (j < i)) := op_gt
theorem op_geI : OpR X (compareOp .GtE) (rCmpI fun i j => decide (j ≤ i)) := op_ge
theorem op_eqA (hu : X.A.units + 64 < cLine) : OpR X (compareOp .Eq) (rEqA X.K) := op_eq.or (op_eqD hu)
theorem op_neA (hu : X.A.units + 64 < cLine) : OpR X (compareOp .NotEq) (rNeA X.K) := op_ne.or (op_neD hu)
theorem op_isNo : OpR X (compareOp .Is) rIsNo := op_isN
theorem op_notNo : OpR X (compareOp .IsNot) rNotNo := op_notN
theorem sl_any : SlR X (rSlA X.K) := sl_list.or sl_str
theorem call_lenA : CallR X (.builtin "len") (rLenA X.K) := call_len_seq.or call_len_str
theorem call_listA : CallR X (.type "list") (rListA X.K) := call_list_of
theorem call_strI : CallR X (.type "str") rStrI := call_str_int
theorem call_maxI (hc : X.calm = true) : CallR X (.builtin "max") rMaxI := call_max2 hc
theorem call_minI (hc : X.calm = true) : CallR X (.builtin "min") rMinI := call_min2 hc
end
/-! ### 2. what follows, by name -/
def kB (Q : Bool → Hp → Prop) : VK := fun x H => ∃ k, x = .bl k ∧ Q k H
def kIf (b : Bool) (A B : Prop) : Prop := if b = true then A else B
def kTup (xs : List V) (H : Hp) (Q : VK) : Prop := xs.length ≤ sizeLine ∧ ∀ p, H p = none → Q (.ref p) (upd H p (.tup xs))
def kLst (xs : List V) (H : Hp) (Q : VK) : Prop := xs.length ≤ sizeLine ∧ ∀ p, H p = none → Q (.ref p) (upd H p (.lst xs))
def kFld (K : PySem.W.Frag) (f : Str) (Q : VK) : VK := fun x H => ∃ a C dx fs v, x = .ref a ∧ H a = some (.ins C dx fs) ∧ Cls K C ∧ NoAttr K C f ∧ fs.lookup f = some v ∧ Q v H
def kSet (K : PySem.W.Frag) (f : Str) (y : V) (N : Hp → Prop) : VK := fun x H => ∃ a C dx fs, x = .ref a ∧ H a = some (.ins C dx fs) ∧ Cls K C ∧ NoAttr K C f ∧ fs.length < 1000 ∧ N (upd H a (.ins C dx (putF f y fs)))
def kBM (K : PySem.W.Frag) (T : String) (t : TA) (r : V → List V → Hp → VK → Prop) (σ : L2.St) (Q : VK) : VK := fun x H => tyV K T x H ∧ t σ H fun xs H' => r x xs H' Q
def kMet (C : Addr) (m : Str) (sp : Sp) (E : XK) (t : TA) (σ : L2.St) (Q : VK) : VK := fun x H => ∃ a dx fs, x = .ref a ∧ H a = some (.ins C dx fs) ∧ fs.lookup m = none ∧ t σ H fun vs H' => sp (x :: vs) H' Q E
def kP (Q : Option Int → Hp → Prop) : VK := fun x H => ∃ i, x = .int i ∧ Q (some i) H
def kTwo (N : V → V → Hp → Prop) (vs : List V) (H : Hp) : Prop := ∃ v u, vs = [v, u] ∧ N v u H
def kThree (N : V → V → V → Hp → Prop) (vs : List V) (H : Hp) : Prop := ∃ u v z, vs = [u, v, z] ∧ N u v z H
def kNew (C : Addr) (sp : Sp) (E : XK) (vs : List V) (H : Hp) (Q : VK) : Prop := ∀ x dx, H x = none → H dx = none → dx ≠ x → sp (.ref x :: vs) (upd (upd H dx (.own x)) x (.ins C dx [])) (fun v H2 => v = .non ∧ Q (.ref x) H2) E
section
variable {K : PySem.W.Frag} {σ : L2.St} {H : Hp} {Q : VK} {Qb : Bool → Hp → Prop} {te ta tb tc : TE} {tt tu : TT} {t u : TS} {tas : TA} {N B C : L2.St → Hp → Prop} {R : VK} {i j : Nat} {v x y : V} {r : R2} {a b p : Addr} {f : Str}
/-! ### 3. steps: statements -/
theorem x_seq (h : Run t (fun σ' H' => Run u N R B C σ' H') R B C σ H) : Run (tSeq t u) N R B C σ H := h
theorem x_asg {g : TG} (h : te σ H fun x H1 => g x σ H1 N) : Run (tAsg te g) N R B C σ H := h
theorem x_drop (h : te σ H fun _ H1 => N σ H1) : Run (tDrop te) N R B C σ H := h
theorem x_ret (h : te σ H R) : Run (tRet te) N R B C σ H := h
theorem x_retN (h : R .non H) : Run tRetN N R B C σ H := h
theorem x_if (h : tt σ H fun b H1 => kIf b (Run t N R B C σ H1) (Run u N R B C σ H1)) : Run (tIfS tt t u) N R B C σ H := h
theorem x_next (h : N σ H) : Run tNext N R B C σ H := h
theorem x_brk (h : B σ H) : Run tBreak N R B C σ H := h
theorem x_cont (h : C σ H) : Run tCont N R B C σ H := h
theorem x_par (h : tas σ H (kTwo fun v u H1 => N ((σ.set i (some v)).set j (some u)) H1)) : Run (tPar i j tas) N R B C σ H := h
theorem x_par3 {l : Nat} (h : tas σ H (kThree fun u v z H1 => N (((σ.set i (some u)).set j (some v)).set l (some z)) H1)) : Run (tPar3 i j l tas) N R B C σ H := h
theorem x_two {N : V → V → Hp → Prop} (h : N x y H) : kTwo N [x, y] H := ⟨x, y, rfl, h⟩
theorem x_three {N : V → V → V → Hp → Prop} (h : N x y v H) : kThree N [x, y, v] H := ⟨x, y, v, rfl, h⟩
theorem x_sfld (h : tb σ H fun y H1 => ta σ H1 (kSet K f y (N σ))) : Run (sFld K ta tb f) N R B C σ H := h
theorem x_body {vs : List V} {Nm : List Str} (h : Run t (fun _ H' => Q .non H') Q (fun _ _ => False) (fun _ _ => False) (start Nm vs) H) : Body t Nm vs H Q := h
/-! ### 4. steps: targets -/
theorem x_name {G : L2.St → Hp → Prop} (h : G (σ.set i (some v)) H) : gName i v σ H G := h
theorem x_gtup {G : L2.St → Hp → Prop} {n : Nat} {gs : TGs} {xs : List V} (hp : H p = some (.tup xs)) (hl : xs.length = n) (h : gs xs σ H G) : gTup K n gs (.ref p) σ H G := ⟨p, xs, rfl, SqT.of hp, hl, h⟩
theorem x_gcons {G : L2.St → Hp → Prop} {g : TG} {gs : TGs} {vs : List V} (h : g v σ H fun σ' H' => gs vs σ' H' G) : gCons g gs (v :: vs) σ H G := ⟨v, vs, rfl, h⟩
theorem x_gnil {G : L2.St → Hp → Prop} (h : G σ H) : gNil [] σ H G := ⟨rfl, h⟩
theorem x_gsub {G : L2.St → Hp → Prop} {ts : TSet} (h : ta σ H fun o H1 => tb σ H1 fun i H2 => ts o i v H2 fun H3 => G σ H3) : gSub ta tb ts v σ H G := h
theorem x_setL {G : Hp → Prop} {xs : List V} {k : Int} (hp : H p = some (.lst xs)) (hk : ixN xs.length k = some j) (h : ∀ H', Kp [p] H H' → H' p = some (.lst (xs.set j v)) → G H') : rSetL (.ref p) (.int k) v H G :=
  ⟨p, xs, k, j, rfl, rfl, hp, hk, h _ ((Kp.refl _ _).updIn List.mem_cons_self (NoT.lst hp)) upd_same⟩
/-! ### 5. steps: expressions -/
theorem x_var (h : σ[i]? = some (some v)) (q : Q v H) : tVar i σ H Q := ⟨v, h, q⟩
theorem x_c (q : Q v H) : tC v σ H Q := q
theorem x_op (h : ta σ H fun x H1 => tb σ H1 fun y H2 => r x y H2 Q) : tOp r ta tb σ H Q := h
theorem x_un {r : V → Hp → VK → Prop} (h : ta σ H fun x H1 => r x H1 Q) : tUn r ta σ H Q := h
theorem x_nil {G : List V → Hp → Prop} (h : G [] H) : tNil σ H G := h
theorem x_cons {G : List V → Hp → Prop} (h : te σ H fun x H1 => tas σ H1 fun xs H2 => G (x :: xs) H2) : tCons te tas σ H G := h
theorem x_tup (h : tas σ H fun xs H1 => kTup xs H1 Q) : tTup tas σ H Q := h
theorem x_lst (h : tas σ H fun xs H1 => kLst xs H1 Q) : tLst tas σ H Q := h
theorem x_newT {xs : List V} (hl : xs.length ≤ 100000) (h : ∀ p H', Kp [] H H' → H p = none → H' p = some (.tup xs) → Q (.ref p) H') : kTup xs H Q :=
  ⟨Nat.le_trans hl (by decide), fun p hp => h p _ ((Kp.refl _ _).updNew hp) hp upd_same⟩
theorem x_newL {xs : List V} (hl : xs.length ≤ 100000) (h : ∀ p H', Kp [] H H' → H p = none → H' p = some (.lst xs) → Q (.ref p) H') : kLst xs H Q :=
  ⟨Nat.le_trans hl (by decide), fun p hp => h p _ ((Kp.refl _ _).updNew hp) hp upd_same⟩
theorem x_fldE (h : ta σ H (kFld K f Q)) : tFld K ta f σ H Q := h
theorem x_fld {C dx : Addr} {fs : List (Str × V)} (ha : H a = some (.ins C dx fs)) (c : Cls K C) (n : NoAttr K C f) (l : fs.lookup f = some v) (q : Q v H) : kFld K f Q (.ref a) H := ⟨a, C, dx, fs, v, rfl, ha, c, n, l, q⟩
theorem x_setF {C dx : Addr} {fs gs : List (Str × V)} {G : Hp → Prop} (ha : H a = some (.ins C dx fs)) (c : Cls K C) (n : NoAttr K C f) (l : fs.length < 1000) (e : putF f y fs = gs) (q : ∀ H', Kp [a] H H' → H' a = some (.ins C dx gs) → G H') : kSet K f y G (.ref a) H :=
  ⟨a, C, dx, fs, rfl, ha, c, n, l, q _ ((Kp.refl _ _).updIn List.mem_cons_self (NoT.ins ha)) (by rw [e]; exact upd_same)⟩
theorem x_cal {sp : Sp} {E : XK} (h : tas σ H fun vs H1 => sp vs H1 Q E) : tCal sp E tas σ H Q := h
theorem x_metE {C : Addr} {m : Str} {sp : Sp} {E : XK} (h : ta σ H (kMet C m sp E tas σ Q)) : tMet C m sp E ta tas σ H Q := h
theorem x_met {C dx : Addr} {m : Str} {sp : Sp} {E : XK} {fs : List (Str × V)} (ha : H a = some (.ins C dx fs)) (l : fs.lookup m = none) (h : tas σ H fun vs H1 => sp (.ref a :: vs) H1 Q E) : kMet C m sp E tas σ Q (.ref a) H := ⟨a, dx, fs, rfl, ha, l, h⟩
theorem x_calS {sp : Sp} {E : L2.St → XK} (h : tas σ H fun vs H1 => sp vs H1 Q (E σ)) : tCalS sp E tas σ H Q := h
theorem x_metS {C : Addr} {m : Str} {sp : Sp} {E : L2.St → XK} (h : ta σ H (kMet C m sp (E σ) tas σ Q)) : tMetS C m sp E ta tas σ H Q := h
theorem x_newI {C : Addr} {sp : Sp} {E : XK} (h : tas σ H fun vs H1 => kNew C sp E vs H1 Q) : tNewI C sp E tas σ H Q := h
theorem x_cb {r : List V → Hp → VK → Prop} (h : tas σ H fun vs H1 => r vs H1 Q) : tCB r tas σ H Q := h
theorem x_bm {T : String} {r : V → List V → Hp → VK → Prop} (h : ta σ H (kBM K T tas r σ Q)) : tBM K T r ta tas σ H Q := h
theorem x_bm0 {T : String} {r : V → List V → Hp → VK → Prop} (h : ta σ H (kBM K T tNil r σ Q)) : tBM0 K T r ta σ H Q := h
theorem x_bmL {r : V → List V → Hp → VK → Prop} {xs : List V} (hp : H p = some (.lst xs)) (h : tas σ H fun ys H1 => r (.ref p) ys H1 Q) : kBM K "list" tas r σ Q (.ref p) H := ⟨.inl ⟨rfl, xs, SqL.of hp⟩, h⟩
theorem x_sl {r : V → Option Int → Option Int → Hp → VK → Prop} {tl th : TO} (h : ta σ H fun x H1 => tl σ H1 fun l H2 => th σ H2 fun u H3 => r x l u H3 Q) : tSl r ta tl th σ H Q := h
theorem x_nop {G : Option Int → Hp → Prop} (h : G none H) : tNoPart σ H G := h
theorem x_part {G : Option Int → Hp → Prop} (h : ta σ H (kP G)) : tPart ta σ H G := h
theorem x_kP {G : Option Int → Hp → Prop} {i : Int} (h : G (some i) H) : kP G (.int i) H := ⟨i, rfl, h⟩
theorem x_ife (h : tt σ H fun b H1 => kIf b (ta σ H1 Q) (tb σ H1 Q)) : tIf tt ta tb σ H Q := h
theorem x_andV (h : ta σ H (kB fun c H1 => kIf c (tb σ H1 Q) (Q (.bl false) H1))) : tAndV ta tb σ H Q := h
theorem x_orV (h : ta σ H (kB fun c H1 => kIf c (Q (.bl true) H1) (tb σ H1 Q))) : tOrV ta tb σ H Q := h
theorem x_notV (h : ta σ H (kB fun c H1 => Q (.bl (!c)) H1)) : tNotV ta σ H Q := h
/-! ### 6. steps: tests -/
theorem x_test (h : te σ H (kB Qb)) : tTest te σ H Qb := h
theorem x_tB (h : te σ H (kB Qb)) : tB te σ H Qb := h
theorem x_kB {b : Bool} (h : Qb b H) : kB Qb (.bl b) H := ⟨b, rfl, h⟩
theorem x_and (h : tt σ H fun c H1 => kIf c (tu σ H1 Qb) (Qb false H1)) : tAnd tt tu σ H Qb := h
theorem x_or (h : tt σ H fun c H1 => kIf c (Qb true H1) (tu σ H1 Qb)) : tOr tt tu σ H Qb := h
theorem x_not (h : tt σ H fun c H1 => Qb (!c) H1) : tNot tt σ H Qb := h
theorem k_T {A B : Prop} (h : A) : kIf true A B := h
theorem k_F {A B : Prop} (h : B) : kIf false A B := iteF h
theorem k_dec {A B q : Prop} [Decidable q] (h1 : q → A) (h2 : ¬ q → B) : kIf (decide q) A B := by
  by_cases h : q
  · rw [decide_eq_true h]; exact h1 h
  · rw [decide_eq_false h]; exact k_F (h2 h)
theorem k_is {A B q : Prop} [Decidable q] (hq : q) (h : A) : kIf (decide q) A B := by rw [decide_eq_true hq]; exact h
theorem k_no {A B q : Prop} [Decidable q] (hq : ¬ q) (h : B) : kIf (decide q) A B := by rw [decide_eq_false hq]; exact k_F h
theorem k_b {b : Bool} {A B : Prop} (h1 : b = true → A) (h2 : b = false → B) : kIf b A B := by
  cases b with
  | true => exact h1 rfl
  | false => exact k_F (h2 rfl)
theorem k_not {b : Bool} {A B : Prop} (h : kIf b B A) : kIf (!b) A B := by
  cases b with
  | true => exact k_F (show B from h)
  | false =>
    have h' : A := by
      have z : (if false = true then B else A) := h
      rw [if_neg Bool.false_ne_true] at z
      exact z
    exact h'
theorem k_bT {b : Bool} {A B : Prop} (e : b = true) (h : A) : kIf b A B := by rw [e]; exact h
theorem k_bF {b : Bool} {A B : Prop} (e : b = false) (h : B) : kIf b A B := by rw [e]; exact k_F h
/-! ### 7. steps: operators by values -/
theorem x_addI {i j : Int} (q : Q (.int (i + j)) H) : rAddA (.int i) (.int j) H Q := .inl (.inl ⟨i, j, rfl, rfl, q⟩)
theorem x_addS {i j : Str} (hl : i.length + j.length ≤ 100000) (q : Q (.str (i ++ j)) H) : rAddA (.str i) (.str j) H Q := .inl (.inr ⟨i, j, rfl, rfl, Nat.le_trans hl (by decide), q⟩)
theorem x_addL {xs ys : List V} (ha : H a = some (.lst xs)) (hb : H b = some (.lst ys)) (hl : xs.length + ys.length ≤ 100000) (h : ∀ p H', Kp [] H H' → H p = none → H' p = some (.lst (xs ++ ys)) → Q (.ref p) H') : rAddA (.ref a) (.ref b) H Q :=
  .inr ⟨a, b, xs, ys, rfl, rfl, ha, hb, Nat.le_trans hl (by decide), fun p hp => h p _ ((Kp.refl _ _).updNew hp) hp upd_same⟩
theorem x_cmp {q : Int → Int → Bool} {i j : Int} (h : Q (.bl (q i j)) H) : rCmpI q (.int i) (.int j) H Q := ⟨i, j, rfl, rfl, h⟩
theorem x_subI {i j : Int} (q : Q (.int (i - j)) H) : rSubI (.int i) (.int j) H Q := ⟨i, j, rfl, rfl, q⟩
theorem x_mulI {i j : Int} (c : CMul i j) (q : Q (.int (i * j)) H) : rMulI (.int i) (.int j) H Q := ⟨i, j, rfl, rfl, c, q⟩
theorem x_modI {i j : Int} (c : 0 < j) (q : Q (.int (i % j)) H) : rModI (.int i) (.int j) H Q := ⟨i, j, rfl, rfl, c, q⟩
theorem x_divI {i j : Int} (c : 0 < j) (c2 : j < 1073741824) (q : Q (.int (i / j)) H) : rDivI (.int i) (.int j) H Q := ⟨i, j, rfl, rfl, ⟨c, c2⟩, q⟩
theorem x_powI {i j : Int} (c : CPow i j) (q : Q (.int (i ^ j.toNat)) H) : rPowI (.int i) (.int j) H Q := ⟨i, j, rfl, rfl, c, q⟩
theorem x_mulS {z : Str} {n : Int} (h2 : 2 ≤ n) (h3 : n ≤ 1000) (h4 : 1 ≤ z.length) (h5 : z.length ≤ 1000) (q : Q (.str ⟨(List.replicate n.toNat z.cps).foldl (· ++ ·) #[]⟩) H) : rMulS (.str z) (.int n) H Q := ⟨z, n, rfl, rfl, h2, h3, h4, h5, q⟩
theorem dec_I {i j : Int} : decide (V.int i = V.int j) = decide (i = j) := by
  by_cases h : i = j
  · subst h; simp
  · rw [decide_eq_false h, decide_eq_false fun z => h (V.int.inj z)]
theorem dec_S {i j : Str} : decide (V.str i = V.str j) = decide (i = j) := by
  by_cases h : i = j
  · subst h; simp
  · rw [decide_eq_false h, decide_eq_false fun z => h (V.str.inj z)]
theorem x_eqI {i j : Int} (q : Q (.bl (decide (i = j))) H) : rEqA K (.int i) (.int j) H Q := .inl ⟨rfl, by rw [dec_I]; exact q⟩
theorem x_eqS {i j : Str} (q : Q (.bl (decide (i = j))) H) : rEqA K (.str i) (.str j) H Q := .inl ⟨rfl, by rw [dec_S]; exact q⟩
theorem x_eqD {d e : PyData} (h1 : Dp K H x d) (h2 : Dp K H y e) (h3 : Shp 60 d) (h4 : Shp 60 e) (q : Q (.bl (PyData.eqv d e)) H) : rEqA K x y H Q := .inr ⟨d, e, h1, h2, h3.ok (by decide), h4.ok (by decide), q⟩
theorem x_neI {i j : Int} (q : Q (.bl (!decide (i = j))) H) : rNeA K (.int i) (.int j) H Q := .inl ⟨rfl, by rw [dec_I]; exact q⟩
theorem x_neS {i j : Str} (q : Q (.bl (!decide (i = j))) H) : rNeA K (.str i) (.str j) H Q := .inl ⟨rfl, by rw [dec_S]; exact q⟩
theorem x_neV (h : scal x y = true) (q : Q (.bl (!decide (x = y))) H) : rNeA K x y H Q := .inl ⟨h, q⟩
theorem x_neD {d e : PyData} (h1 : Dp K H x d) (h2 : Dp K H y e) (h3 : Shp 60 d) (h4 : Shp 60 e) (q : Q (.bl (!PyData.eqv d e)) H) : rNeA K x y H Q := .inr ⟨d, e, h1, h2, h3.ok (by decide), h4.ok (by decide), q⟩
theorem x_isNo (q : Q (.bl (decide (x = .non))) H) : rIsNo x .non H Q := ⟨rfl, q⟩
theorem x_notNo (q : Q (.bl (!decide (x = .non))) H) : rNotNo x .non H Q := ⟨rfl, q⟩
theorem x_ixL {xs : List V} {i : Int} (ha : SqL K H a xs) (e : atI xs i = some v) (q : Q v H) : rIx K (.ref a) (.int i) H Q := .inl ⟨a, xs, i, v, rfl, rfl, ha, e, q⟩
theorem x_ixT {xs : List V} {i : Int} (ha : H a = some (.tup xs)) (e : atI xs i = some v) (q : Q v H) : rIx K (.ref a) (.int i) H Q := .inr (.inl ⟨a, xs, i, v, rfl, rfl, SqT.of ha, e, q⟩)
theorem x_ixS {z : Str} {i : Int} {c : Nat} (hl : z.length ≤ 100000) (e : atI z.cps.toList i = some c) (q : Q (.str ⟨#[c]⟩) H) : rIx K (.str z) (.int i) H Q := .inr (.inr ⟨z, i, c, rfl, rfl, Nat.le_trans hl (by decide), e, q⟩)
theorem x_slL {xs : List V} {lo hi : Option Int} (ha : H a = some (.lst xs)) (h : ∀ p H', Kp [] H H' → H p = none → H' p = some (.lst (cutV xs lo hi)) → Q (.ref p) H') : rSlA K (.ref a) lo hi H Q :=
  .inl ⟨a, xs, rfl, SqL.of ha, fun p hp => h p _ ((Kp.refl _ _).updNew hp) hp upd_same⟩
theorem x_slS {z : Str} {lo hi : Option Int} (hl : z.length ≤ 100000) (q : Q (.str (cutS z lo hi)) H) : rSlA K (.str z) lo hi H Q := .inr ⟨z, rfl, Nat.le_trans hl (by decide), q⟩
theorem x_lenL {xs : List V} (ha : SqL K H a xs) (q : Q (.int xs.length) H) : rLenA K [.ref a] H Q := .inl ⟨a, xs, rfl, .inl ha, q⟩
theorem x_lenS {z : Str} (hl : z.length ≤ 100000) (q : Q (.int z.length) H) : rLenA K [.str z] H Q := .inr ⟨z, rfl, Nat.le_trans hl (by decide), q⟩
theorem x_listL {xs : List V} (ha : H a = some (.lst xs)) (h : ∀ p H', Kp [] H H' → H p = none → H' p = some (.lst xs) → Q (.ref p) H') : rListA K [.ref a] H Q :=
  ⟨a, xs, rfl, .inl (SqL.of ha), fun p hp => h p _ ((Kp.refl _ _).updNew hp) hp upd_same⟩
theorem x_strI {i : Int} (hl : i.natAbs.log2 < 1920) (q : Q (.str (toString i)) H) : rStrI [.int i] H Q := ⟨i, rfl, hl, q⟩
theorem x_max {i j : Int} (q : Q (.int (if j > i then j else i)) H) : rMaxI [.int i, .int j] H Q := ⟨i, j, rfl, q⟩
theorem x_min {i j : Int} (q : Q (.int (if j < i then j else i)) H) : rMinI [.int i, .int j] H Q := ⟨i, j, rfl, q⟩
theorem x_in {neg : Bool} {xs : List V} (ha : SqL K H a xs) (fx : flatV x = true) (fa : xs.all flatV = true) (q : Q (.bl (if neg then !inV x xs else inV x xs)) H) : rIn K neg x (.ref a) H Q := ⟨a, xs, rfl, .inl ha, fx, fa, q⟩
theorem x_append {xs : List V} (ha : H a = some (.lst xs)) (hl : xs.length < 100000) (h : ∀ H', Kp [a] H H' → H' a = some (.lst (xs ++ [y])) → Q .non H') : rAppend (.ref a) [y] H Q :=
  ⟨a, xs, y, rfl, rfl, ha, Nat.lt_of_lt_of_le hl (by decide), h _ ((Kp.refl _ _).updIn List.mem_cons_self (NoT.lst ha)) upd_same⟩
theorem x_pop {xs : List V} (ha : H a = some (.lst xs)) (e : xs[xs.length - 1]? = some y) (h : ∀ H', Kp [a] H H' → H' a = some (.lst xs.dropLast) → Q y H') : rPop (.ref a) [] H Q :=
  ⟨a, xs, y, rfl, rfl, ha, e, h _ ((Kp.refl _ _).updIn List.mem_cons_self (NoT.lst ha)) upd_same⟩
theorem seq_nat {k n : Nat} (h : k < n) : seqIndex? (k : Int) n = some k := by
  have e : ixN n (k : Int) = some k := by
    unfold ixN
    rw [if_pos (by omega), if_pos (by omega)]
    rfl
  exact (ixN_seq e).1
theorem x_popAt {xs : List V} {k : Nat} (ha : H a = some (.lst xs)) (e : xs[k]? = some y) (hk : k < 2 ^ 62) (h : ∀ H', Kp [a] H H' → H' a = some (.lst (xs.eraseIdx k)) → Q y H') : rPopAt (.ref a) [.int (k : Int)] H Q :=
  ⟨a, xs, k, k, y, rfl, rfl, ha, by omega, by omega, seq_nat (List.getElem?_eq_some_iff.mp e).1, e, h _ ((Kp.refl _ _).updIn List.mem_cons_self (NoT.lst ha)) upd_same⟩
def rInsert : V → List V → Hp → VK → Prop := fun x vs H Q => ∃ (l : Addr) (xs : List V) (i : Int) (y : V), x = .ref l ∧ vs = [.int i, y] ∧ H l = some (.lst xs) ∧ xs.length < sizeLine ∧ 0 ≤ i ∧ i < 2 ^ 63 ∧ Q .non (upd H l (.lst (xs.take i.toNat ++ [y] ++ xs.drop i.toNat)))
theorem mt_ins {X : Cx} : MtR X "list.insert" rInsert := mt_insert
theorem x_insert {xs : List V} {k : Nat} (ha : H a = some (.lst xs)) (hl : xs.length < 100000) (hk : k < 2 ^ 62) (h : ∀ H', Kp [a] H H' → H' a = some (.lst (xs.take k ++ [y] ++ xs.drop k)) → Q .non H') : rInsert (.ref a) [.int (k : Int), y] H Q :=
  ⟨a, xs, k, y, rfl, rfl, ha, Nat.lt_of_lt_of_le hl (by decide), by omega, by omega, h _ ((Kp.refl _ _).updIn List.mem_cons_self (NoT.lst ha)) upd_same⟩
end
end WM
set_option Elab.async false
set_option linter.all false
set_option maxRecDepth 100000
set_option maxHeartbeats 2000000
namespace WM
open PySem PySem.Spec PyProof.Rows L2
/-! ### loops -/
def kFor (J : It) (g : TG) (tb : TS) (N : L2.St → Hp → Prop) (R : VK) (B C : L2.St → Hp → Prop) (σ : L2.St) (H1 : Hp) : Prop :=
  ∃ W : Nat → Nat → L2.St → Hp → Prop, (∃ m, W 0 m σ H1) ∧ ∀ i m σ H, W i m σ H →
    (J.stop i H ∧ N σ H) ∨ (J.go i H ∧ ∃ N' : L2.St → Hp → Prop, (∀ σ' H', N' σ' H' → ∃ m', m' < m ∧ W (i + 1) m' σ' H') ∧ ∀ x H', J.yld i H x H' → g x σ H' fun σ2 H2 => Run tb N' R N N' σ2 H2)
def kIL (K : PySem.W.Frag) (G : It → Hp → Prop) : VK := fun x H => ∃ a, x = .ref a ∧ (∃ xs, SqL K H a xs) ∧ G (Itl K a) H
def kIT (K : PySem.W.Frag) (G : It → Hp → Prop) : VK := fun x H => ∃ a, x = .ref a ∧ (∃ xs, SqT K H a xs) ∧ G (Itt K a) H
def kR1 (G : It → Hp → Prop) (vs : List V) (H : Hp) : Prop := ∃ j : Int, vs = [.int j] ∧ -(2 ^ 62) ≤ j ∧ j < 2 ^ 62 ∧ G (Itr 0 j.toNat) H
def kR2 (G : It → Hp → Prop) (vs : List V) (H : Hp) : Prop := ∃ i j : Int, vs = [.int i, .int j] ∧ (-(2 ^ 62) ≤ i ∧ i < 2 ^ 62 ∧ -(2 ^ 62) ≤ j ∧ j < 2 ^ 62) ∧ G (Itr i (j - i).toNat) H
def kEn (K : PySem.W.Frag) (G : It → Hp → Prop) (vs : List V) (H : Hp) : Prop := ∃ a xs, vs = [.ref a] ∧ SqL K H a xs ∧ G (Ite K a) H
section
variable {K : PySem.W.Frag} {σ : L2.St} {H : Hp} {te : TE} {tb : TS} {tas : TA} {N B C : L2.St → Hp → Prop} {R : VK} {a : Addr} {g : TG} {wi : TI} {xs : List V} {G : It → Hp → Prop}
theorem x_for (h : wi σ H fun J H1 => kFor J g tb N R B C σ H1) : Run (tFor wi g tb) N R B C σ H := h
theorem x_iL (h : te σ H (kIL K G)) : iList K te σ H G := h
theorem x_kIL (ha : SqL K H a xs) (h : G (Itl K a) H) : kIL K G (.ref a) H := ⟨a, rfl, ⟨xs, ha⟩, h⟩
theorem x_iT (h : te σ H (kIT K G)) : iTup K te σ H G := h
theorem x_kIT (ha : SqT K H a xs) (h : G (Itt K a) H) : kIT K G (.ref a) H := ⟨a, rfl, ⟨xs, ha⟩, h⟩
theorem x_iR1 (h : tas σ H (kR1 G)) : iRng1 tas σ H G := h
theorem x_kR1 {j : Int} (h1 : -1000000 ≤ j) (h2 : j ≤ 1000000) (h : G (Itr 0 j.toNat) H) : kR1 G [.int j] H := ⟨j, rfl, by omega, by omega, h⟩
theorem x_iR2 (h : tas σ H (kR2 G)) : iRng2 tas σ H G := h
theorem x_kR2 {i j : Int} (h1 : -1000000 ≤ i) (h2 : i ≤ 1000000) (h3 : -1000000 ≤ j) (h4 : j ≤ 1000000) (h : G (Itr i (j - i).toNat) H) : kR2 G [.int i, .int j] H := ⟨i, j, rfl, ⟨by omega, by omega, by omega, by omega⟩, h⟩
theorem x_iE (h : tas σ H (kEn K G)) : iEnum K tas σ H G := h
theorem x_kE (ha : SqL K H a xs) (h : G (Ite K a) H) : kEn K G [.ref a] H := ⟨a, xs, rfl, ha, h⟩
theorem k_forL (Pv : Nat → L2.St → Hp → Prop) (h0 : Pv 0 σ H) (hl : ∀ i σ H, i ≤ xs.length → Pv i σ H → SqL K H a xs)
    (hs : ∀ i x σ H, xs[i]? = some x → Pv i σ H → g x σ H fun σ2 H2 => Run tb (Pv (i + 1)) R N (Pv (i + 1)) σ2 H2) (hd : ∀ σ H, Pv xs.length σ H → N σ H) : kFor (Itl K a) g tb N R B C σ H :=
  for_list (D := { nx := N, rt := R, bk := B, ct := C }) Pv h0 hl hs hd
theorem k_forT (Pv : Nat → L2.St → Hp → Prop) (h0 : Pv 0 σ H) (hl : ∀ i σ H, i ≤ xs.length → Pv i σ H → SqT K H a xs)
    (hs : ∀ i x σ H, xs[i]? = some x → Pv i σ H → g x σ H fun σ2 H2 => Run tb (Pv (i + 1)) R N (Pv (i + 1)) σ2 H2) (hd : ∀ σ H, Pv xs.length σ H → N σ H) : kFor (Itt K a) g tb N R B C σ H :=
  for_tup (D := { nx := N, rt := R, bk := B, ct := C }) Pv h0 hl hs hd
theorem k_forR {lo : Int} {n : Nat} (Pv : Nat → L2.St → Hp → Prop) (h0 : Pv 0 σ H)
    (hs : ∀ (i : Nat) σ H, i < n → Pv i σ H → g (.int (lo + i)) σ H fun σ2 H2 => Run tb (Pv (i + 1)) R N (Pv (i + 1)) σ2 H2) (hd : ∀ σ H, Pv n σ H → N σ H) : kFor (Itr lo n) g tb N R B C σ H :=
  for_range (D := { nx := N, rt := R, bk := B, ct := C }) Pv h0 hs hd
theorem k_forE (Pv : Nat → L2.St → Hp → Prop) (h0 : Pv 0 σ H) (hl : ∀ i σ H, i ≤ xs.length → Pv i σ H → SqL K H a xs)
    (hs : ∀ (i : Nat) x σ H T H', xs[i]? = some x → Pv i σ H → Kp [] H H' → H T = none → H' T = some (.tup [.int (i : Nat), x]) → g (.ref T) σ H' fun σ2 H2 => Run tb (Pv (i + 1)) R N (Pv (i + 1)) σ2 H2) (hd : ∀ σ H, Pv xs.length σ H → N σ H) : kFor (Ite K a) g tb N R B C σ H := by
  refine for_it (walk_enum (K := K) (a := a) (xs := xs)) (D := { nx := N, rt := R, bk := B, ct := C }) Pv h0 hl (fun i x σ H H' hi p y => ?_) hd
  obtain ⟨T, u, v, e1, e2, e3, e4, e5⟩ := y
  cases e4
  subst e1
  exact hs i v σ H T H' e5 p (by rw [e3]; exact (Kp.refl _ _).updNew e2) e2 (by rw [e3]; exact upd_same)
end
/-! ### while -/
def kWh (tt : TT) (tb : TS) (N : L2.St → Hp → Prop) (R : VK) (σ : L2.St) (H1 : Hp) : Prop := ∃ W : Nat → L2.St → Hp → Prop, (∃ m, W m σ H1) ∧ ∀ m σ H, W m σ H →
  tt σ H fun b H1 => kIf b (∃ N' : L2.St → Hp → Prop, (∀ σ' H', N' σ' H' → ∃ m', m' < m ∧ W m' σ' H') ∧ Run tb N' R N N' σ H1) (N σ H1)
theorem x_while {tt : TT} {tb : TS} {N B C : L2.St → Hp → Prop} {R : VK} {σ : L2.St} {H : Hp} (h : kWh tt tb N R σ H) : Run (tWhile tt tb) N R B C σ H := h
/-! ### comprehensions -/
def kLc (J : It) (g : TG) (tt : TT) (te : TE) (vs : List Nat) (σ : L2.St) (Q : VK) (H1 : Hp) : Prop := ∀ D, H1 D = none → ∃ W : Nat → Nat → Hp → Prop, (∃ m, W 0 m (upd H1 D (.lst []))) ∧ ∀ i m H, W i m H →
  (J.stop i H ∧ Q (.ref D) H) ∨ (J.go i H ∧ ∃ Nx : Hp → Prop, (∀ H', Nx H' → ∃ m', m' < m ∧ W (i + 1) m' H') ∧ ∀ x H', J.yld i H x H' → g x (wipe σ vs) H' fun σ2 H2 => wipe σ2 vs = wipe σ vs ∧ tt σ2 H2 fun b H3 =>
    if b = true then te σ2 H3 fun y H4 => ∃ acc, H4 D = some (.lst acc) ∧ acc.length < sizeLine ∧ Nx (upd H4 D (.lst (acc ++ [y]))) else Nx H3)
/-- between two turns: all but fp is kept, the list so far stands at D -/
def PvLc (fp : List Addr) (H : Hp) (D : Addr) (n : Nat) (P : Nat → List V → Hp → Prop) (i : Nat) (H' : Hp) : Prop := i ≤ n ∧ ∃ ys, Kp fp H H' ∧ H' D = some (.lst ys) ∧ ys.length ≤ i ∧ P i ys H'
/-- the element of a turn -/
def kEl (D : Addr) (Pn : Hp → Prop) : VK := fun y H4 => ∃ acc, H4 D = some (.lst acc) ∧ acc.length < sizeLine ∧ Pn (upd H4 D (.lst (acc ++ [y])))
def kWp (vs : List Nat) (σ : L2.St) (G : L2.St → Hp → Prop) (σ2 : L2.St) (H3 : Hp) : Prop := wipe σ2 vs = wipe σ vs ∧ G σ2 H3
section
variable {K : PySem.W.Frag} {σ : L2.St} {H : Hp} {te : TE} {tt : TT} {g : TG} {wi : TI} {vs : List Nat} {Q : VK} {J : It} {n : Nat} {Gd : Hp → Prop} {Y : Nat → Hp → V → Hp → Prop}
theorem x_lc (h : wi σ H fun J H1 => kLc J g tt te vs σ Q H1) : tLc wi g tt te vs σ H Q := h
theorem x_wp {G : L2.St → Hp → Prop} {σ0 σ2 : L2.St} (e : wipe σ2 vs = wipe σ0 vs) (h : G σ2 H) : kWp vs σ0 G σ2 H := ⟨e, h⟩
theorem x_yes {Qb : Bool → Hp → Prop} (h : Qb true H) : tYes σ H Qb := h
theorem x_el {fp : List Addr} {H0 : Hp} {D : Addr} {ys : List V} {P : Nat → List V → Hp → Prop} {i : Nat} {y : V} (hD : H0 D = none) (hi : i < n) (hn : n ≤ 100000) (l : ys.length ≤ i) (k : Kp fp H0 H) (d : H D = some (.lst ys))
    (h : ∀ H6, Kp [D] H H6 → H6 D = some (.lst (ys ++ [y])) → P (i + 1) (ys ++ [y]) H6) : kEl D (PvLc fp H0 D n P (i + 1)) y H :=
  ⟨ys, d, Nat.lt_of_lt_of_le (show ys.length < 100000 by omega) (by decide), by omega, ys ++ [y], k.updFree hD, upd_same, by rw [List.length_append]; exact Nat.add_le_add_right l 1, h _ ((Kp.refl _ _).updIn List.mem_cons_self (NoT.lst d)) upd_same⟩
theorem x_sk {fp : List Addr} {H0 : Hp} {D : Addr} {ys : List V} {P : Nat → List V → Hp → Prop} {i : Nat} (hi : i < n) (l : ys.length ≤ i) (k : Kp fp H0 H) (d : H D = some (.lst ys)) (h : P (i + 1) ys H) : PvLc fp H0 D n P (i + 1) H :=
  ⟨by omega, ys, k, d, by omega, h⟩
theorem k_lc (w : Walk J n Gd Y) (fp : List Addr) (P : Nat → List V → Hp → Prop)
    (h0 : ∀ D H', H D = none → Kp [] H H' → H' D = some (.lst []) → P 0 [] H') (hG : ∀ i ys H', i ≤ n → Kp fp H H' → P i ys H' → Gd H')
    (hs : ∀ i x ys D H1 H2, i < n → H D = none → Kp fp H H1 → H1 D = some (.lst ys) → ys.length ≤ i → P i ys H1 → Y i H1 x H2 →
      g x (wipe σ vs) H2 (kWp vs σ fun σ2 H3 => tt σ2 H3 fun b H4 => kIf b (te σ2 H4 (kEl D (PvLc fp H D n P (i + 1)))) (PvLc fp H D n P (i + 1) H4)))
    (hd : ∀ D ys H', H D = none → Kp fp H H' → H' D = some (.lst ys) → ys.length ≤ n → P n ys H' → Q (.ref D) H') : kLc J g tt te vs σ Q H := by
  intro D hD
  refine lc_it w (PvLc fp H D n P) ?_ ?_ ?_ ?_
  · have k0 : Kp [] H (upd H D (.lst [])) := (Kp.refl _ _).updNew hD
    exact ⟨Nat.zero_le _, [], k0.nil, upd_same, Nat.le_refl _, h0 D _ hD k0 upd_same⟩
  · rintro i H' hi ⟨_, ys, k, _, _, p⟩
    exact hG i ys H' hi k p
  · rintro i x H1 H2 hi ⟨_, ys, k, d, l, p⟩ y
    exact hs i x ys D H1 H2 hi hD k d l p y
  · rintro H' ⟨_, ys, k, d, l, p⟩
    exact hd D ys H' hD k d l p
end
/-! ### the rules that read the written part, with its name told -/
section
variable {X : Cx} {K : PySem.W.Frag} {e o : Expr} {es : List Expr} {ta to te : TE} {t : TA} {pos apos cpos : Pos} {f : Str}
theorem ixK (h : X.K = K := by rfl) : IxR X (rIx K) := h ▸ ix_seq
theorem eqK (hu : X.A.units + 64 < cLine) (h : X.K = K := by rfl) : OpR X (compareOp .Eq) (rEqA K) := h ▸ op_eqA hu
theorem neK (hu : X.A.units + 64 < cLine) (h : X.K = K := by rfl) : OpR X (compareOp .NotEq) (rNeA K) := h ▸ op_neA hu
theorem inK (h : X.K = K := by rfl) : OpR X (compareOp .In) (rIn K false) := h ▸ op_in_seq
theorem niK (h : X.K = K := by rfl) : OpR X (compareOp .NotIn) (rIn K true) := h ▸ op_notIn_seq
theorem slK (h : X.K = K := by rfl) : SlR X (rSlA K) := h ▸ sl_any
theorem lenK (h : X.K = K := by rfl) : CallR X (.builtin "len") (rLenA K) := h ▸ call_lenA
theorem listK (h : X.K = K := by rfl) : CallR X (.type "list") (rListA K) := h ▸ call_listA
theorem isiK (h : X.K = K := by rfl) : CallR X (.builtin "isinstance") (rIsi K) := h ▸ call_isi
theorem isVK (h : X.K = K := by rfl) : CallR X (.builtin "isinstance") (rIsV K) := h ▸ call_isV
theorem cntK (h : X.K = K := by rfl) : MtR X "list.count" (rCntF K) := h ▸ mt_countF
theorem idxK (h : X.K = K := by rfl) : MtR X "list.index" (rIndex K) := h ▸ mt_index
theorem fldK (he : PE X e ta) (hb : attributeBase e f X.env (eval e X.env) = eval e X.env) (h : X.K = K := by rfl) : PE X (.Attribute e f pos) (tFld K ta f) := h ▸ pe_fld he hb
theorem xvK (he : PE X e te) (hb : attributeBase e f X.env (eval e X.env) = eval e X.env := by rfl) (h : X.K = K := by rfl) : PE X (.Attribute e f pos) (tXv K f te) := h ▸ pe_xv he hb
theorem sfldK {value : Expr} {tv : TE} {pos' : Pos} (ha : PE X o ta) (hv : PE X value tv) (hs : swapsWith value (some (.Attribute o f pos')) pos.line X.env = pure false) (h : X.K = K := by rfl) : PS X (.Assign [.Attribute o f pos'] value pos) (sFld K ta tv f) := h ▸ ps_fld ha hv hs
theorem bm0K {T id : String} {nm : Str} {r : V → List V → Hp → VK → Prop} (pa : PlainAttrs T) (slot : Slot T nm id) (hty : typeOf (.builtin id) = pure (.type "method_descriptor")) (hm : MtR X id r) (ho : PE X o to)
    (hbase : attributeBase o nm X.env (eval o X.env) = eval o X.env := by rfl) (hline : (apos.endLine == cpos.line) = true := by rfl) (h : X.K = K := by rfl) : PE X (.Call (.Attribute o nm apos) [] [] cpos) (tBM0 K T r to) := h ▸ pe_bm0 pa slot hty hm ho hbase hline
theorem bmK {T id : String} {nm : Str} {r : V → List V → Hp → VK → Prop} (pa : PlainAttrs T) (slot : Slot T nm id) (hty : typeOf (.builtin id) = pure (.type "method_descriptor")) (hm : MtR X id r) (ho : PE X o to) (ha : PA X (e :: es) t)
    (hbase : attributeBase o nm X.env (eval o X.env) = eval o X.env := by rfl)
    (hfew : ((backTo cpos (starEach (e :: es) X.env)).all (fun x => !x.1) && (backToKw cpos (keywordEach [] X.env)).all (fun x => x.1.isSome)
      && decide ((e :: es).length + ([] : List Keyword).length + (if ([] : List Keyword).isEmpty then 0 else 1) < 30)) = true := by rfl)
    (hline : (apos.endLine == cpos.line) = true := by rfl) (hs : starEach (e :: es) X.env = (false, eval e X.env) :: starEach es X.env := by rfl) (hplain : (backTo cpos (starEach es X.env)).any (·.1) = false := by rfl) (h : X.K = K := by rfl) :
    PE X (.Call (.Attribute o nm apos) (e :: es) [] cpos) (tBM K T r to t) := h ▸ pe_bm pa slot hty hm ho ha hbase hfew hline hs hplain
theorem listIt {tg l : Expr} {tl : TE} (hl : PE X l tl) (h : X.K = K := by rfl) : PI X tg l (iList K tl) := h ▸ pi_list hl
theorem tupIt {tg l : Expr} {tl : TE} (hl : PE X l tl) (h : X.K = K := by rfl) : PI X tg l (iTup K tl) := h ▸ pi_tup hl
theorem enumIt {p tpos : Pos} {elts : List Expr} {kk : Nat} (hg : Gl X "enumerate") (hm : X.mg "enumerate" = none) (ha : PA X [e] t) (hs : starEach [e] X.env = [(false, eval e X.env)] := by rfl) (h : X.K = K := by rfl) :
    PI X (.Tuple elts kk tpos) (.Call (.Name "enumerate" p) [e] [] pos) (iEnum K t) := h ▸ pi_enum hg hm ha hs
theorem gtupK {k : Nat} {gs : TGs} {n : Nat} (hc : X.calm = true) (hg : PGs X es gs) (hn : (assignEach es X.env).length = n := by rfl) (hst : (assignEach es X.env).findIdx? (·.1) = none := by rfl) (h : X.K = K := by rfl) : PG X (.Tuple es k pos) (gTup K n gs) := h ▸ pg_tup hc hg hn hst
end
end WM
set_option Elab.async false
set_option linter.all false
set_option maxRecDepth 100000
set_option maxHeartbeats 2000000
namespace WM
open PySem PySem.Spec PyProof.Rows L2
local macro_rules | `(tactic| walk_at "ne") => `(tactic| first | assumption | exact Ne.symm (by assumption) | exact ne_fresh (by assumption) (by walk_at "hp") | exact (ne_fresh (by assumption) (by walk_at "hp")).symm | exact ne_kind (by walk_at "hp") (by walk_at "hp") (by intro z; cases z))
local macro_rules | `(tactic| walk_at "ni") => `(tactic| first | exact List.not_mem_nil | assumption | exact ni1 (by walk_at "ne") | exact ni2 (by walk_at "ne") (by walk_at "ne") | exact ni3 (by walk_at "ne") (by walk_at "ne") (by walk_at "ne"))
local macro_rules | `(tactic| walk_at "hp") => `(tactic| first | assumption | exact upd_same | (apply upd_getN; (assumption); (walk_at "hp")) | (apply Kp.tup; (assumption); (walk_at "hp")) | (apply Kp.get; (assumption); (walk_at "hp"); (walk_at "ni")))
local macro_rules | `(tactic| walk_at "sq") => `(tactic| first | assumption | exact SqL.of (by walk_at "hp") | (apply Kp.sqL; (assumption); (walk_at "sq"); (walk_at "ni")))
local macro_rules | `(tactic| walk_at "kp") => `(tactic| first | exact Kp.refl _ _ | assumption | exact Kp.nil (by assumption) | (refine' Kp.step (by assumption) ?_ (by first | exact fun _ z => z | exact fun _ z => nomatch z | simp); walk_at "kp"))
local macro_rules | `(tactic| walk_at "tp") => `(tactic| first | assumption | exact Tp.non | exact Tp.bl _ | exact Tp.int _ | exact Tp.str _ | (apply Tp.tup; (walk_at "hp"); (walk_at "tps")) | (apply Tp.kp; (assumption); (walk_at "tp")))
local macro_rules | `(tactic| walk_at "tps") => `(tactic| first | exact TpAll.nil | (refine TpAll.cons ?_ ?_; (walk_at "tp"); (walk_at "tps")))
local macro_rules | `(tactic| walk_at "lk") => `(tactic| first | assumption | rfl)
local macro_rules | `(tactic| walk_at "go1") => `(tactic| first | with_reducible refine x_seq ?_ | with_reducible refine x_asg ?_ | with_reducible refine x_drop ?_ | with_reducible refine x_ret ?_ | with_reducible refine x_if ?_ | with_reducible refine x_next ?_ | with_reducible refine x_par ?_ | with_reducible refine x_par3 ?_ | with_reducible refine x_two ?_ | with_reducible refine x_three ?_ | with_reducible refine x_sfld ?_ | with_reducible refine x_retN ?_ | with_reducible refine x_brk ?_ | with_reducible refine x_name ?_ | with_reducible refine x_gsub ?_ | with_reducible refine x_gcons ?_ | with_reducible refine x_gnil ?_ | ((with_reducible apply x_gtup); (walk_at "hp"); exact rfl) | ((with_reducible apply x_var); exact rfl) | with_reducible refine x_c ?_ | with_reducible refine x_op ?_ | with_reducible refine x_un ?_ | with_reducible refine x_nil ?_ | with_reducible refine x_cons ?_ | with_reducible refine x_tup ?_ | with_reducible refine x_lst ?_ | with_reducible refine x_fldE ?_ | ((with_reducible apply x_fld); (walk_at "hp"); assumption; assumption; (walk_at "lk")) | with_reducible refine x_cal ?_ | with_reducible refine x_metE ?_ | with_reducible refine x_calS ?_ | with_reducible refine x_metS ?_ | ((with_reducible apply x_met); (walk_at "hp"); (walk_at "lk")) | with_reducible refine x_newI ?_ | with_reducible refine x_cb ?_ | with_reducible refine x_bm ?_ | with_reducible refine x_bm0 ?_ | ((with_reducible apply x_bmL); (walk_at "hp")) | with_reducible refine x_sl ?_ | with_reducible refine x_nop ?_ | with_reducible refine x_part ?_ | with_reducible refine x_kP ?_ | with_reducible refine x_ife ?_ | with_reducible refine x_andV ?_ | with_reducible refine x_orV ?_ | with_reducible refine x_notV ?_ | with_reducible refine x_test ?_ | with_reducible refine x_tB ?_ | with_reducible refine x_kB ?_ | with_reducible refine x_and ?_ | with_reducible refine x_or ?_ | with_reducible refine x_not ?_ | with_reducible refine k_T ?_ | with_reducible refine k_F ?_ | with_reducible refine k_not ?_ | walk_at "go2")
local macro_rules | `(tactic| walk_at "go2") => `(tactic| first | ((with_reducible apply x_setF); (walk_at "hp"); assumption; assumption; exact Nat.le_of_ble_eq_true rfl; exact rfl; intro _ _ _) | ((with_reducible apply x_append); (walk_at "hp"); (first | omega | (simp; omega)); intro _ _ _) | ((with_reducible apply x_setL); (walk_at "hp"); exact rfl; intro _ _ _) | with_reducible refine x_addI ?_ | with_reducible refine x_cmp ?_ | with_reducible refine x_subI ?_ | with_reducible refine x_eqI ?_ | with_reducible refine x_eqS ?_ | with_reducible refine x_neI ?_ | with_reducible refine x_neS ?_ | with_reducible refine x_isNo ?_ | with_reducible refine x_notNo ?_ | ((with_reducible apply x_modI); (first | omega | decide)) | ((with_reducible apply x_divI); (first | omega | decide); (first | omega | decide)) | ((with_reducible apply x_mulI); (first | exact .inl ⟨by omega, by omega⟩ | exact .inr ⟨by decide, by decide⟩ | exact .inr ⟨by omega, by omega⟩)) | ((with_reducible apply x_powI); exact ⟨by decide, by decide, by decide⟩) | ((with_reducible apply x_ixT); (walk_at "hp"); exact rfl) | ((with_reducible apply x_ixL); (walk_at "sq"); exact rfl) | ((with_reducible apply x_lenL); (walk_at "sq")) | ((with_reducible apply x_newT); exact Nat.le_of_ble_eq_true rfl; intro _ _ _ _ _) | ((with_reducible apply x_newL); exact Nat.le_of_ble_eq_true rfl; intro _ _ _ _ _) | with_reducible refine x_for ?_ | with_reducible refine x_iL ?_ | with_reducible refine x_iR1 ?_ | with_reducible refine x_iR2 ?_ | with_reducible refine x_iE ?_ | ((with_reducible apply x_kIL); (walk_at "sq")) | ((with_reducible apply x_kE); (walk_at "sq")) | with_reducible refine x_lc ?_ | with_reducible refine x_yes ?_ | ((with_reducible apply x_wp); exact rfl))
local macro_rules | `(tactic| walk_at "go") => `(tactic| (walk_at "go1"; repeat walk_at "go1"))
local macro_rules | `(tactic| walk_at "fr") => `(tactic| first | assumption | exact Kp.free (by assumption) _ (by walk_at "fr"))
def top (i : Nat) : Stmt := PySem.Challenge.pw_weldmill_k81_deeds_refused.main.body.getD i (.Pass ⟨0, 0, 0, 0⟩)
/-- the built-in names are no names of the module -/
structure Blt (mg : Str → Option Value) : Prop where
  len : mg "len" = none
  range : mg "range" = none
  enumerate : mg "enumerate" = none
  isinstance : mg "isinstance" = none
  list : mg "list" = none
  str : mg "str" = none
  ValueError : mg "ValueError" = none
section
variable {P : Program} {w : World} {K : PySem.W.Frag} {mg : Str → Option Value} {base : Heap}
/-- a list that nobody writes: frozen, or an object of the module -/
def SqF (K : PySem.W.Frag) (H : Hp) (a : Addr) (xs : List V) : Prop :=
  (∃ o, H a = some (.frz o (.lst xs))) ∨ ∃ (o : Obj) (its : Array Value) (n : Nat), K.lookup a = some o ∧ o.cls = .type "list" ∧ o.dict = none ∧ o.data = .seq its n ∧ its.size ≤ sizeLine ∧ Vals xs its.toList
theorem SqF.sq {H : Hp} {a : Addr} {xs : List V} (h : SqF K H a xs) : SqL K H a xs := by
  rcases h with h | h
  · exact .inl (.inr h)
  · exact .inr h
theorem SqF.kp {fp : List Addr} {H H' : Hp} {a : Addr} {xs : List V} (k : Kp fp H H') (h : SqF K H a xs) (hf : ∀ b ∈ fp, ∃ ys, H b = some (.lst ys)) : SqF K H' a xs := by
  rcases h with ⟨o, h⟩ | h
  · refine .inl ⟨o, k.get h fun z => ?_⟩
    obtain ⟨ys, e⟩ := hf a z
    rw [h] at e
    cases e
  · exact .inr h
theorem one_lst {H : Hp} {b : Addr} {ys : List V} (h : H b = some (.lst ys)) : ∀ c ∈ [b], ∃ ys, H c = some (.lst ys) := fun c hc => ⟨ys, by rw [List.mem_singleton.mp hc]; exact h⟩
def Pen (K : PySem.W.Frag) (H : Hp) (pn : Addr) : Prop := ∃ (sc : Addr) (ns : List Int) (a c : Int), H pn = some (.lst [.ref sc, .int a, .int c]) ∧ SqF K H sc (ns.map V.int) ∧ ns.length ≤ 63 ∧ 0 ≤ a
def spFill : Sp := fun vs H Q _ => ∃ (c a : Int), vs = [.int c, .int a] ∧ ∀ r : Int, Q (.int r) H
def spNext (K : PySem.W.Frag) : Sp := fun vs H Q _ => ∃ (pn : Addr) (m : Int), vs = [.ref pn, .int m] ∧ Pen K H pn ∧ 0 < m ∧ m < 1000000 ∧ ∀ (r : Int) (H' : Hp), 0 ≤ r → r < m → Kp [pn] H H' → Pen K H' pn → Q (.int r) H'
abbrev s_fill : Stmt := top 16
theorem sc_fill : FnScope ["_law_cell", "_law_at", "_law_x"] ["_law_cell", "_law_at"] (defScope s_fill) := ⟨rfl, rfl, rfl, by decide +kernel, rfl, by decide +kernel, by decide +kernel⟩
theorem D_fill (D : DefAt K mg "_law_fill" s_fill ["_law_cell", "_law_at"]) : Def P w K mg base CX0 "_law_fill" 1 spFill := by
  refine D.ok sc_fill (fun vs H Q E h => by obtain ⟨c, a, rfl, _⟩ := h; rfl) fun f cdv A outer s H vs Q E hr h => ⟨_, (pss_cons (ps_if (pt_cmpR op_geI (pv 0) (pe_op op_powI pe_int pe_int) (nomark _)) (pss_one (ps_ret (pv 0))) pss_nil) (pss_cons (ps_set (i := 2) sc_fill.nd rfl (Or.inl rfl) (pe_op op_modI (pe_op op_addA (pe_op op_addA (pe_op op_mulI (pe_op op_modI (pv 0) pe_int) pe_int) (pe_op op_mulI (pv 1) pe_int)) pe_int) pe_int)) (pss_cons (ps_set (i := 2) sc_fill.nd rfl (Or.inl rfl) (pe_op op_modI (pe_op op_addA (pe_op op_addA (pe_op op_mulI (pv 2) (pv 2)) (pe_op op_mulI pe_int (pv 2))) (pv 1)) pe_int)) (pss_one (ps_ret (pe_op op_addA (pe_op op_mulI (pv 2) pe_int) (pe_op op_modI (pe_op op_addA (pe_op op_mulI (pv 2) (pv 2)) (pe_op op_mulI pe_int (pv 1))) pe_int))))))), ?_⟩
  obtain ⟨c, a, rfl, k⟩ := h
  refine x_body ?_
  walk_at "go"
  refine k_dec (fun _ => ?_) (fun _ => ?_)
  · walk_at "go"
    exact k _
  · walk_at "go"
    exact k _
theorem at_ints {ns : List Int} {a : Int} (h0 : 0 ≤ a) (h1 : a < (ns.length : Int)) : ∃ z : Int, atI (ns.map V.int) a = some (.int z) := by
  obtain ⟨j, rfl⟩ := Int.eq_ofNat_of_zero_le h0
  have hj : j < ns.length := by omega
  exact ⟨ns[j], atI_nat (by rw [List.getElem?_map, List.getElem?_eq_getElem hj]; rfl)⟩
abbrev s_next : Stmt := top 17
theorem sc_next : FnScope ["_law_pen", "_law_many", "_law_at", "_law_cell", "_law_found"] ["_law_pen", "_law_many"] (defScope s_next) := ⟨rfl, rfl, rfl, by decide +kernel, rfl, by decide +kernel, by decide +kernel⟩
theorem D_next (Z : Blt mg) (D_fill : Def P w K mg base CX0 "_law_fill" 1 spFill) (D : DefAt K mg "_law_next" s_next ["_law_pen", "_law_many"]) : Def P w K mg base CX0 "_law_next" 2 (spNext K) := by
  refine D.ok sc_next (fun vs H Q E h => by obtain ⟨c, a, rfl, _⟩ := h; rfl) fun f cdv A outer s H vs Q E hr h => ⟨_, (pss_cons (ps_if (pt_cmpR op_ltI (pe_ix (ixK (K := K)) (pv 0) pe_int (fun _ _ => rfl)) (pv 1) (nomark _)) (pss_cons (ps_set (i := 2) sc_next.nd rfl (Or.inl rfl) (pe_ix (ixK (K := K)) (pv 0) pe_int (fun _ _ => rfl))) (pss_cons (ps_set (i := 3) sc_next.nd rfl (Or.inl rfl) pe_int) (pss_cons (ps_if (pt_cmpR op_ltI (pv 2) (pe_callB (lenK (K := K)) (by rfl) Z.len PySem.boot_len (pa_cons (pe_ix (ixK (K := K)) (pv 0) pe_int (fun _ _ => rfl)) pa_nil)) (nomark _)) (pss_one (ps_set (i := 3) sc_next.nd rfl (Or.inl rfl) (pe_ix (ixK (K := K)) (pe_ix (ixK (K := K)) (pv 0) pe_int (fun _ _ => rfl)) (pv 2) (fun _ _ => rfl)))) (pss_one (ps_if (pt_cmpR op_gtI (pe_callB (lenK (K := K)) (by rfl) Z.len PySem.boot_len (pa_cons (pe_ix (ixK (K := K)) (pv 0) pe_int (fun _ _ => rfl)) pa_nil)) pe_int (nomark _)) (pss_one (ps_set (i := 3) sc_next.nd rfl (Or.inl rfl) (pe_op op_addA (pe_op op_modI (pe_ix (ixK (K := K)) (pe_ix (ixK (K := K)) (pv 0) pe_int (fun _ _ => rfl)) (pe_op op_modI (pe_op op_mulI (pv 2) pe_int) (pe_callB (lenK (K := K)) (by rfl) Z.len PySem.boot_len (pa_cons (pe_ix (ixK (K := K)) (pv 0) pe_int (fun _ _ => rfl)) pa_nil))) (fun _ _ => rfl)) pe_int) (pe_op op_mulI (pv 2) pe_int)))) pss_nil))) (pss_cons (ps_asg (pe_op op_addA (pv 2) pe_int) (pg_sub (pv 0) pe_int set_list)) (pss_one (ps_asg (pe_def D_fill (hr.mono (by decide)) pass0 (pa_cons (pv 3) (pa_cons (pv 2) pa_nil))) (pg_sub (pv 0) pe_int set_list))))))) pss_nil) (pss_cons (ps_set (i := 4) sc_next.nd rfl (Or.inl rfl) (pe_op op_modI (pe_ix (ixK (K := K)) (pv 0) pe_int (fun _ _ => rfl)) (pv 1))) (pss_cons (ps_asg (pe_op op_divI (pe_ix (ixK (K := K)) (pv 0) pe_int (fun _ _ => rfl)) (pv 1)) (pg_sub (pv 0) pe_int set_list)) (pss_one (ps_ret (pv 4)))))), ?_⟩
  obtain ⟨pn, m, rfl, ⟨sc, ns, a, c, hp, hs0, hl, ha⟩, h0, h1, k⟩ := h
  have hs := hs0.sq
  refine x_body ?_
  have hll : ((ns.map V.int).length : Int) = (ns.length : Int) := by rw [List.length_map]
  walk_at "go"
  refine k_dec (fun _ => ?_) (fun _ => ?_)
  · walk_at "go"
    refine k_dec (fun hlt => ?_) (fun _ => ?_)
    · obtain ⟨z, hz⟩ := at_ints ha (by rw [← hll]; exact hlt)
      walk_at "go"
      refine x_ixL (by walk_at "sq") hz ?_
      walk_at "go"
      refine ⟨_, _, rfl, fun r => ?_⟩
      walk_at "go"
      exact k _ _ (Int.emod_nonneg _ (by omega)) (Int.emod_lt_of_pos _ h0) (by walk_at "kp") ⟨sc, ns, _, _, by assumption, hs0.kp (fp := [pn]) (by walk_at "kp") (one_lst hp), hl, by omega⟩
    · walk_at "go"
      refine k_dec (fun hlt => ?_) (fun _ => ?_)
      · have hpos : 0 < (ns.length : Int) := by rw [← hll]; exact hlt
        obtain ⟨z, hz⟩ := at_ints (ns := ns) (a := a * 7 % ((ns.map V.int).length : Int)) (Int.emod_nonneg _ (by omega)) (by have := Int.emod_lt_of_pos (a * 7) hpos; rw [hll]; exact this)
        walk_at "go"
        refine x_ixL (by walk_at "sq") hz ?_
        walk_at "go"
        refine ⟨_, _, rfl, fun r => ?_⟩
        walk_at "go"
        exact k _ _ (Int.emod_nonneg _ (by omega)) (Int.emod_lt_of_pos _ h0) (by walk_at "kp") ⟨sc, ns, _, _, by assumption, hs0.kp (fp := [pn]) (by walk_at "kp") (one_lst hp), hl, by omega⟩
      · walk_at "go"
        refine ⟨_, _, rfl, fun r => ?_⟩
        walk_at "go"
        exact k _ _ (Int.emod_nonneg _ (by omega)) (Int.emod_lt_of_pos _ h0) (by walk_at "kp") ⟨sc, ns, _, _, by assumption, hs0.kp (fp := [pn]) (by walk_at "kp") (one_lst hp), hl, by omega⟩
  · walk_at "go"
    exact k _ _ (Int.emod_nonneg _ (by omega)) (Int.emod_lt_of_pos _ h0) (by walk_at "kp") ⟨sc, ns, _, _, by assumption, hs0.kp (fp := [pn]) (by walk_at "kp") (one_lst hp), hl, by omega⟩
end
end WM
set_option Elab.async false
set_option linter.all false
set_option maxRecDepth 100000
set_option maxHeartbeats 2000000
namespace WM
open PySem PySem.Spec PyProof.Rows L2
local macro_rules | `(tactic| walk_at "ne") => `(tactic| first | assumption | exact Ne.symm (by assumption) | exact ne_fresh (by assumption) (by walk_at "hp") | exact (ne_fresh (by assumption) (by walk_at "hp")).symm | exact ne_kind (by walk_at "hp") (by walk_at "hp") (by intro z; cases z))
local macro_rules | `(tactic| walk_at "ni") => `(tactic| first | exact List.not_mem_nil | assumption | exact ni1 (by walk_at "ne") | exact ni2 (by walk_at "ne") (by walk_at "ne") | exact ni3 (by walk_at "ne") (by walk_at "ne") (by walk_at "ne"))
local macro_rules | `(tactic| walk_at "hp") => `(tactic| first | assumption | exact upd_same | (apply upd_getN; (assumption); (walk_at "hp")) | (apply Kp.tup; (assumption); (walk_at "hp")) | (apply Kp.get; (assumption); (walk_at "hp"); (walk_at "ni")))
local macro_rules | `(tactic| walk_at "sq") => `(tactic| first | assumption | exact SqL.of (by walk_at "hp") | (apply Kp.sqL; (assumption); (walk_at "sq"); (walk_at "ni")))
local macro_rules | `(tactic| walk_at "kp") => `(tactic| first | exact Kp.refl _ _ | assumption | exact Kp.nil (by assumption) | (refine' Kp.step (by assumption) ?_ (by first | exact fun _ z => z | exact fun _ z => nomatch z | simp); walk_at "kp"))
local macro_rules | `(tactic| walk_at "tp") => `(tactic| first | assumption | exact Tp.non | exact Tp.bl _ | exact Tp.int _ | exact Tp.str _ | (apply Tp.tup; (walk_at "hp"); (walk_at "tps")) | (apply Tp.kp; (assumption); (walk_at "tp")))
local macro_rules | `(tactic| walk_at "tps") => `(tactic| first | exact TpAll.nil | (refine TpAll.cons ?_ ?_; (walk_at "tp"); (walk_at "tps")))
local macro_rules | `(tactic| walk_at "lk") => `(tactic| first | assumption | rfl)
local macro_rules | `(tactic| walk_at "go1") => `(tactic| first | with_reducible refine x_seq ?_ | with_reducible refine x_asg ?_ | with_reducible refine x_drop ?_ | with_reducible refine x_ret ?_ | with_reducible refine x_if ?_ | with_reducible refine x_next ?_ | with_reducible refine x_par ?_ | with_reducible refine x_par3 ?_ | with_reducible refine x_two ?_ | with_reducible refine x_three ?_ | with_reducible refine x_sfld ?_ | with_reducible refine x_retN ?_ | with_reducible refine x_brk ?_ | with_reducible refine x_name ?_ | with_reducible refine x_gsub ?_ | with_reducible refine x_gcons ?_ | with_reducible refine x_gnil ?_ | ((with_reducible apply x_gtup); (walk_at "hp"); exact rfl) | ((with_reducible apply x_var); exact rfl) | with_reducible refine x_c ?_ | with_reducible refine x_op ?_ | with_reducible refine x_un ?_ | with_reducible refine x_nil ?_ | with_reducible refine x_cons ?_ | with_reducible refine x_tup ?_ | with_reducible refine x_lst ?_ | with_reducible refine x_fldE ?_ | ((with_reducible apply x_fld); (walk_at "hp"); assumption; assumption; (walk_at "lk")) | with_reducible refine x_cal ?_ | with_reducible refine x_metE ?_ | with_reducible refine x_calS ?_ | with_reducible refine x_metS ?_ | ((with_reducible apply x_met); (walk_at "hp"); (walk_at "lk")) | with_reducible refine x_newI ?_ | with_reducible refine x_cb ?_ | with_reducible refine x_bm ?_ | with_reducible refine x_bm0 ?_ | ((with_reducible apply x_bmL); (walk_at "hp")) | with_reducible refine x_sl ?_ | with_reducible refine x_nop ?_ | with_reducible refine x_part ?_ | with_reducible refine x_kP ?_ | with_reducible refine x_ife ?_ | with_reducible refine x_andV ?_ | with_reducible refine x_orV ?_ | with_reducible refine x_notV ?_ | with_reducible refine x_test ?_ | with_reducible refine x_tB ?_ | with_reducible refine x_kB ?_ | with_reducible refine x_and ?_ | with_reducible refine x_or ?_ | with_reducible refine x_not ?_ | with_reducible refine k_T ?_ | with_reducible refine k_F ?_ | with_reducible refine k_not ?_ | walk_at "go2")
local macro_rules | `(tactic| walk_at "go2") => `(tactic| first | ((with_reducible apply x_setF); (walk_at "hp"); assumption; assumption; exact Nat.le_of_ble_eq_true rfl; exact rfl; intro _ _ _) | ((with_reducible apply x_append); (walk_at "hp"); (first | omega | (simp; omega)); intro _ _ _) | ((with_reducible apply x_setL); (walk_at "hp"); exact rfl; intro _ _ _) | with_reducible refine x_addI ?_ | with_reducible refine x_cmp ?_ | with_reducible refine x_subI ?_ | with_reducible refine x_eqI ?_ | with_reducible refine x_eqS ?_ | with_reducible refine x_neI ?_ | with_reducible refine x_neS ?_ | with_reducible refine x_isNo ?_ | with_reducible refine x_notNo ?_ | ((with_reducible apply x_modI); (first | omega | decide)) | ((with_reducible apply x_divI); (first | omega | decide); (first | omega | decide)) | ((with_reducible apply x_mulI); (first | exact .inl ⟨by omega, by omega⟩ | exact .inr ⟨by decide, by decide⟩ | exact .inr ⟨by omega, by omega⟩)) | ((with_reducible apply x_powI); exact ⟨by decide, by decide, by decide⟩) | ((with_reducible apply x_ixT); (walk_at "hp"); exact rfl) | ((with_reducible apply x_ixL); (walk_at "sq"); exact rfl) | ((with_reducible apply x_lenL); (walk_at "sq")) | ((with_reducible apply x_newT); exact Nat.le_of_ble_eq_true rfl; intro _ _ _ _ _) | ((with_reducible apply x_newL); exact Nat.le_of_ble_eq_true rfl; intro _ _ _ _ _) | with_reducible refine x_for ?_ | with_reducible refine x_iL ?_ | with_reducible refine x_iR1 ?_ | with_reducible refine x_iR2 ?_ | with_reducible refine x_iE ?_ | ((with_reducible apply x_kIL); (walk_at "sq")) | ((with_reducible apply x_kE); (walk_at "sq")) | with_reducible refine x_lc ?_ | with_reducible refine x_yes ?_ | ((with_reducible apply x_wp); exact rfl))
local macro_rules | `(tactic| walk_at "go") => `(tactic| (walk_at "go1"; repeat walk_at "go1"))
local macro_rules | `(tactic| walk_at "fr") => `(tactic| first | assumption | exact Kp.free (by assumption) _ (by walk_at "fr"))
/-! ### exceptions with one field -/
def spIni (C : Addr) (f : Str) : Sp := fun vs H Q _ => ∃ (a : Addr) (v : V), vs = [.ref a, v] ∧ H a = some (exo a C none) ∧ ∀ d, H d = none → d ≠ a → Q .non (upd (upd H d (exd d [(f, v)])) a (exo a C (some d)))
structure ExcD (P : Program) (w : World) (K : PySem.W.Frag) (mg : Str → Option Value) (base : Heap) (x : Str) (C : Addr) (f : Str) : Prop where
  gC : mg x = some (.ref C)
  T : OexC K C
  ex : ∃ (fI : Addr) (fd : FuncData) (ps : List Str), PySem.W.findIn K (.ref C) "__init__" = some (some (.ref fI)) ∧ PySem.W.typeIn K (.ref fI) = some (.type "function") ∧ FnOk P w K mg base CX0 1 fI fd ps (spIni C f) ∧ Binds K fd ps []
def kMk (C : Addr) (f : Str) (G : XK) (vs : List V) (H : Hp) : Prop := ∃ v, vs = [v] ∧ ∀ d H', Kp [] H H' → H d = none → H' d = some (.xd [(f, v)]) → G (.ref C) (some d) H'
theorem x_mk {C : Addr} {f : Str} {G : XK} {v : V} {H : Hp} (h : ∀ d H', Kp [] H H' → H d = none → H' d = some (.xd [(f, v)]) → G (.ref C) (some d) H') : kMk C f G [v] H := ⟨v, rfl, h⟩
/-- raise X(e, ..) -/
def tRs (C : Addr) (f : Str) (W : WX) (ta : TA) : TS := fun _ σ H => ta σ H (kMk C f fun cls d H' => W cls d σ H')
theorem x_rs {C : Addr} {f : Str} {W : WX} {ta : TA} {N B Ct : L2.St → Hp → Prop} {R : VK} {σ : L2.St} {H : Hp} (h : ta σ H (kMk C f fun cls d H' => W cls d σ H')) : Run (tRs C f W ta) N R B Ct σ H := h
theorem exo_ne_none {a C : Addr} {H : Hp} : upd H a (exo a C none) a = some (exo a C none) := upd_same
/-- arguments whose reading may be weakened -/
def cloA (ta : TA) : TA := fun σ H Q => ∃ G : List V → Hp → Prop, ta σ H G ∧ ∀ vs H', G vs H' → Q vs H'
theorem pa_clo {X : Cx} {es : List Expr} {ta : TA} (h : PA X es ta) : PA X es (cloA ta) := ⟨fun pos pins s σ H Q I ⟨G, g, k⟩ => thn (h.run pos pins s σ H G I g) fun us s1 ⟨vs, H', I', r, q⟩ => ⟨vs, H', I', r, k _ _ q⟩⟩
theorem ps_rs {X : Cx} {x f : Str} {C : Addr} {W : WX} {e : Expr} {es : List Expr} {ta : TA} {p pos pos2 : Pos} (hc : X.calm = true) (tk : Takes X W) (D : ExcD X.prog X.w X.K X.mg X.base x C f) (hr : Room 2 X.A) (ha : PA X (e :: es) ta) (hg : Gl X x := by rfl)
    (hdb : (x == ("__debug__" : Str)) = false := by decide) (he : starEach (e :: es) X.env = (false, eval e X.env) :: starEach es X.env := by rfl) (hpl : (backTo pos (starEach es X.env)).any (·.1) = false := by rfl) :
    PS X (.Raise (some (.Call (.Name x p) (e :: es) [] pos)) none pos2) (tRs C f W ta) := by
  obtain ⟨fI, fd, ps, iC, tI, F, b⟩ := D.ex
  have h1 := pmk_oex (p := p) (pos := pos) D.T iC tI F hr b .nil pass0 hg D.gC (pa_clo ha) hdb he hpl
  refine ps_raise hc tk (t := fun σ H G => ta σ H (kMk C f G)) fun pins s σ H G I h => h1 pins s σ H G I ?_
  have key : ∀ vs H1, kMk C f G vs H1 → (vs.length ≤ 1000 ∧ ∀ a, H1 a = none → spIni C f (.ref a :: (vs ++ [])) (upd H1 a (exo a C none))
      (fun v H2 => v = .non ∧ ∃ (d : Addr) (fs : List (Str × V)), H2 a = some (exo a C (some d)) ∧ H2 d = some (exd d fs) ∧ H1 d = none ∧ G (.ref C) (some d) (upd (del H2 a) d (.xd fs))) (fun _ _ _ => False)) := by
    rintro vs H1 ⟨v, rfl, g⟩
    refine ⟨Nat.le_of_ble_eq_true rfl, fun a ha => ⟨a, v, rfl, upd_same, fun d hd hne => ⟨rfl, d, [(f, v)], upd_same, (upd_ne hne).trans upd_same, ?_, ?_⟩⟩⟩
    · rw [upd_ne hne] at hd
      exact hd
    · have hd' : H1 d = none := by
        rw [upd_ne hne] at hd
        exact hd
      refine g d _ ?_ hd' upd_same
      refine ⟨fun b o e _ => ?_, fun b xs e => ?_, fun b e => ?_⟩
      · rw [upd_ne (ne_of_none e hd'), del_ne (ne_of_none e ha), upd_ne (ne_of_none e ha), upd_ne (ne_of_none e hd'), upd_ne (ne_of_none e ha)]
        exact e
      · rw [upd_ne (ne_of_none e hd'), del_ne (ne_of_none e ha), upd_ne (ne_of_none e ha), upd_ne (ne_of_none e hd'), upd_ne (ne_of_none e ha)]
        exact e
      · by_cases z : b = d
        · rw [z]
          exact hd'
        · rw [upd_ne z] at e
          by_cases z2 : b = a
          · rw [z2]
            exact ha
          · rw [del_ne z2, upd_ne z2, upd_ne z, upd_ne z2] at e
            exact e
  exact ⟨_, h, key⟩
/-! ### pieces, deeds done, a Linker -/
structure Pc where
  p : Addr
  nm : Str
  d : PyData
structure PcAt (H : Hp) (c : Pc) : Prop where
  tup : ∃ x y, H c.p = some (.tup [.str c.nm, x, y])
  dat : Tp H (.ref c.p) c.d
  shp : Shp 20 c.d
theorem PcAt.kp {fp : List Addr} {H H' : Hp} {c : Pc} (k : Kp fp H H') (h : PcAt H c) : PcAt H' c := by
  obtain ⟨x, y, e⟩ := h.tup
  exact ⟨⟨x, y, k.tup e⟩, Tp.kp k h.dat, h.shp⟩
inductive Kd where
  | put | exch | take
def Kd.w : Kd → Str
  | .put => "put" | .exch => "exchanged" | .take => "taken"
structure Dn where
  a : Addr
  k : Kd
  at_ : Nat
  pc : Option Pc
def pcV : Option Pc → V
  | none => .non
  | some c => .ref c.p
def pcD : Option Pc → PyData
  | none => .none
  | some c => c.d
structure DnAt (H : Hp) (e : Dn) : Prop where
  tup : H e.a = some (.tup [.str e.k.w, .int (e.at_ : Int), pcV e.pc])
  pc : ∀ c, e.pc = some c → PcAt H c
theorem DnAt.kp {fp : List Addr} {H H' : Hp} {e : Dn} (k : Kp fp H H') (h : DnAt H e) : DnAt H' e := ⟨k.tup h.tup, fun c z => (h.pc c z).kp k⟩
theorem Kd.ok (k : Kd) : PyData.strOk k.w = true := by cases k <;> decide +kernel
theorem DnAt.tp {H : Hp} {e : Dn} (h : DnAt H e) : Tp H (.ref e.a) (.tuple [.str e.k.w, .int (e.at_ : Int), pcD e.pc]) := by
  refine .tup h.tup (.cons (.str _) (.cons (.int _) (.cons ?_ .nil)))
  cases q : e.pc with
  | none => exact .non
  | some c => exact (h.pc c q).dat
theorem DnAt.shp {H : Hp} {e : Dn} (h : DnAt H e) : Shp 21 (.tuple [.str e.k.w, .int (e.at_ : Int), pcD e.pc]) := by
  refine Shp.tuple fun d hd => ?_
  simp only [List.mem_cons, List.not_mem_nil, or_false] at hd
  rcases hd with rfl | rfl | rfl
  · exact Shp.str (Kd.ok _)
  · exact Shp.int _
  · cases q : e.pc with
    | none => exact Shp.none
    | some c => exact (h.pc c q).shp
def lf (pl dl : Addr) : List (Str × V) := [("pieces", .ref pl), ("done", .ref dl)]
theorem lf_p (pl dl : Addr) : (lf pl dl).lookup ("pieces" : Str) = some (.ref pl) := rfl
theorem lf_d (pl dl : Addr) : (lf pl dl).lookup ("done" : Str) = some (.ref dl) := rfl
theorem lf_no {m : Str} (pl dl : Addr) (h1 : (m == ("pieces" : Str)) = false) (h2 : (m == ("done" : Str)) = false) : (lf pl dl).lookup m = none := by
  simp only [lf, List.lookup, h1, h2]
theorem lf_new (pl dl : Addr) : putF "done" (.ref dl) (putF "pieces" (.ref pl) []) = lf pl dl := rfl
structure Lk (C : Addr) (H : Hp) (l pl dl : Addr) (ps : List Pc) (ds : List Dn) : Prop where
  ins : ∃ dx, H l = some (.ins C dx (lf pl dl))
  pcs : H pl = some (.lst (ps.map fun c => V.ref c.p))
  dns : H dl = some (.lst (ds.map fun e => V.ref e.a))
  pok : ∀ c ∈ ps, PcAt H c
  dok : ∀ e ∈ ds, DnAt H e
  ne : pl ≠ dl
theorem Lk.kp {C l pl dl : Addr} {ps : List Pc} {ds : List Dn} {fp : List Addr} {H H' : Hp} (k : Kp fp H H') (h : Lk C H l pl dl ps ds) (n1 : l ∉ fp) (n2 : pl ∉ fp) (n3 : dl ∉ fp) : Lk C H' l pl dl ps ds := by
  obtain ⟨⟨dx, i⟩, p, d, a, b, e⟩ := h
  exact ⟨⟨dx, k.get i n1⟩, k.get p n2, k.get d n3, fun c z => (a c z).kp k, fun x z => (b x z).kp k, e⟩
local macro_rules | `(tactic| walk_at "lk") => `(tactic| first | exact lf_p _ _ | exact lf_d _ _ | exact lf_no _ _ (by decide +kernel) (by decide +kernel))
/-! ### in, not in, of texts -/
theorem inV_strs {x : Str} : ∀ {xs : List Str}, inV (.str x) (xs.map V.str) = decide (x ∈ xs)
  | [] => by simp [inV]
  | y :: xs => by
    have ih := inV_strs (x := x) (xs := xs)
    unfold inV at ih ⊢
    rw [List.map_cons, List.any_cons, ih]
    have e : eqV (.str y) (.str x) = decide (y = x) := by
      unfold eqV
      by_cases h : y = x <;> simp [h]
    rw [e]
    by_cases h : x = y
    · subst h
      simp
    · have h' : ¬ y = x := fun z => h z.symm
      simp [h, h']
theorem flat_strs : ∀ (xs : List Str), (xs.map V.str).all flatV = true
  | [] => rfl
  | _ :: xs => by
    rw [List.map_cons, List.all_cons, flat_strs xs]
    rfl
section
variable {K : PySem.W.Frag} {H : Hp} {Q : VK} {a : Addr}
theorem x_inS {x : Str} {xs : List Str} (ha : SqL K H a (xs.map V.str)) (q : Q (.bl (decide (x ∈ xs))) H) : rIn K false (.str x) (.ref a) H Q := x_in ha rfl (flat_strs xs) (by rw [inV_strs]; exact q)
theorem x_niS {x : Str} {xs : List Str} (ha : SqL K H a (xs.map V.str)) (q : Q (.bl (!decide (x ∈ xs))) H) : rIn K true (.str x) (.ref a) H Q := x_in ha rfl (flat_strs xs) (by rw [inV_strs]; exact q)
end
/-! ### the Linker's defs: promises -/
def spNew (C : Addr) : Sp := fun vs H Q _ => ∃ (l dx : Addr), vs = [.ref l] ∧ H l = some (.ins C dx []) ∧ ∀ pl dl H', Kp [l] H H' → H pl = none → H dl = none → Lk C H' l pl dl [] [] → Q .non H'
def spNames (C : Addr) : Sp := fun vs H Q _ => ∃ (l pl dl : Addr) (ps : List Pc) (ds : List Dn), vs = [.ref l] ∧ Lk C H l pl dl ps ds ∧ ps.length ≤ 1000 ∧ ∀ p H', Kp [] H H' → H p = none → H' p = some (.lst ((ps.map (·.nm)).map V.str)) → Q (.ref p) H'
def spLen (C : Addr) : Sp := fun vs H Q _ => ∃ (l pl dl : Addr) (ps : List Pc) (ds : List Dn), vs = [.ref l] ∧ Lk C H l pl dl ps ds ∧ Q (.int ps.length) H
/-- a refusal: an error of the class at CX, its field told -/
def Refused (E : XK) (H : Hp) (CX : Addr) (f : Str) (v : V) : Prop := ∀ d H', Kp [] H H' → H d = none → H' d = some (.xd [(f, v)]) → E (.ref CX) (some d) H'
def spSpot (C CN : Addr) : Sp := fun vs H Q E => ∃ (l : Addr) (nm : Str) (pl dl : Addr) (ps : List Pc) (ds : List Dn), vs = [.ref l, .str nm] ∧ Lk C H l pl dl ps ds ∧ ps.length ≤ 1000 ∧
  (∀ (i : Nat) c H', ps[i]? = some c → c.nm = nm → Kp [] H H' → Q (.int (i : Int)) H') ∧ ((∀ c ∈ ps, c.nm ≠ nm) → Refused E H CN "name" (.str nm))
def spPut (C CM CT : Addr) : Sp := fun vs H Q E => ∃ (l pl dl : Addr) (c : Pc) (ps : List Pc) (ds : List Dn), vs = [.ref l, .ref c.p] ∧ Lk C H l pl dl ps ds ∧ PcAt H c ∧ ps.length ≤ 1000 ∧ ds.length ≤ 50000 ∧
  (30 ≤ ps.length → Refused E H CM "most" (.int 30)) ∧ (ps.length < 30 → c.nm ∈ ps.map (·.nm) → Refused E H CT "name" (.str c.nm)) ∧
  (ps.length < 30 → c.nm ∉ ps.map (·.nm) → ∀ a H', Kp [pl, dl] H H' → Lk C H' l pl dl (ps ++ [c]) (ds ++ [⟨a, .put, ps.length, none⟩]) → Q .non H')
def spExch (C CN : Addr) : Sp := fun vs H Q E => ∃ (l pl dl : Addr) (c : Pc) (ps : List Pc) (ds : List Dn), vs = [.ref l, .ref c.p] ∧ Lk C H l pl dl ps ds ∧ PcAt H c ∧ ps.length ≤ 1000 ∧ ds.length ≤ 50000 ∧
  (∀ (i : Nat) o a H', ps[i]? = some o → o.nm = c.nm → Kp [pl, dl] H H' → Lk C H' l pl dl (ps.set i c) (ds ++ [⟨a, .exch, i, some o⟩]) → Q .non H') ∧ ((∀ o ∈ ps, o.nm ≠ c.nm) → Refused E H CN "name" (.str c.nm))
def spTake (C CN : Addr) : Sp := fun vs H Q E => ∃ (l pl dl : Addr) (nm : Str) (ps : List Pc) (ds : List Dn), vs = [.ref l, .str nm] ∧ Lk C H l pl dl ps ds ∧ ps.length ≤ 1000 ∧ ds.length ≤ 50000 ∧
  (∀ (i : Nat) o a H', ps[i]? = some o → o.nm = nm → Kp [pl, dl] H H' → Lk C H' l pl dl (ps.eraseIdx i) (ds ++ [⟨a, .take, i, some o⟩]) → Q .non H') ∧ ((∀ o ∈ ps, o.nm ≠ nm) → Refused E H CN "name" (.str nm))
/-- what a deed's undoing asks, and gives -/
def Undo (ps : List Pc) (e : Dn) (qs : List Pc) : Prop := match e.k, e.pc with
  | .put, _ => e.at_ < ps.length ∧ qs = ps.eraseIdx e.at_
  | .exch, some c => e.at_ < ps.length ∧ qs = ps.set e.at_ c
  | .take, some c => e.at_ ≤ ps.length ∧ qs = ps.take e.at_ ++ [c] ++ ps.drop e.at_
  | _, _ => False
def spUndo (C : Addr) : Sp := fun vs H Q _ => ∃ (l pl dl : Addr) (ps : List Pc) (ds : List Dn), vs = [.ref l] ∧ Lk C H l pl dl ps ds ∧ ps.length ≤ 1000 ∧
  (ds = [] → ∀ H', Kp [] H H' → Q .non H') ∧
  (∀ es e, ds = es ++ [e] → ∃ qs, Undo ps e qs ∧ ∀ H', Kp [pl, dl] H H' → Lk C H' l pl dl qs es → Q (.str e.k.w) H')
def spEqL (C : Addr) : Sp := fun vs H Q _ => ∃ (l pl dl m ql el : Addr) (ps qs : List Pc) (ds es : List Dn), vs = [.ref l, .ref m] ∧ Lk C H l pl dl ps ds ∧ Lk C H m ql el qs es ∧
  Q (.bl (PyData.eqv (.list (ps.map (·.d))) (.list (qs.map (·.d))))) H
end WM
set_option Elab.async false
set_option linter.all false
set_option maxRecDepth 100000
set_option maxHeartbeats 2000000
namespace WM
open PySem PySem.Spec PyProof.Rows L2
local macro_rules | `(tactic| walk_at "ne") => `(tactic| first | assumption | exact Ne.symm (by assumption) | exact ne_fresh (by assumption) (by walk_at "hp") | exact (ne_fresh (by assumption) (by walk_at "hp")).symm | exact ne_kind (by walk_at "hp") (by walk_at "hp") (by intro z; cases z))
local macro_rules | `(tactic| walk_at "ni") => `(tactic| first | exact List.not_mem_nil | assumption | exact ni1 (by walk_at "ne") | exact ni2 (by walk_at "ne") (by walk_at "ne") | exact ni3 (by walk_at "ne") (by walk_at "ne") (by walk_at "ne"))
local macro_rules | `(tactic| walk_at "hp") => `(tactic| first | assumption | exact upd_same | (apply upd_getN; (assumption); (walk_at "hp")) | (apply Kp.tup; (assumption); (walk_at "hp")) | (apply Kp.get; (assumption); (walk_at "hp"); (walk_at "ni")))
local macro_rules | `(tactic| walk_at "sq") => `(tactic| first | assumption | exact SqL.of (by walk_at "hp") | (apply Kp.sqL; (assumption); (walk_at "sq"); (walk_at "ni")))
local macro_rules | `(tactic| walk_at "kp") => `(tactic| first | exact Kp.refl _ _ | assumption | exact Kp.nil (by assumption) | (refine' Kp.step (by assumption) ?_ (by first | exact fun _ z => z | exact fun _ z => nomatch z | simp); walk_at "kp"))
local macro_rules | `(tactic| walk_at "tp") => `(tactic| first | assumption | exact Tp.non | exact Tp.bl _ | exact Tp.int _ | exact Tp.str _ | (apply Tp.tup; (walk_at "hp"); (walk_at "tps")) | (apply Tp.kp; (assumption); (walk_at "tp")))
local macro_rules | `(tactic| walk_at "tps") => `(tactic| first | exact TpAll.nil | (refine TpAll.cons ?_ ?_; (walk_at "tp"); (walk_at "tps")))
local macro_rules | `(tactic| walk_at "lk") => `(tactic| first | assumption | rfl)
local macro_rules | `(tactic| walk_at "go1") => `(tactic| first | with_reducible refine x_seq ?_ | with_reducible refine x_asg ?_ | with_reducible refine x_drop ?_ | with_reducible refine x_ret ?_ | with_reducible refine x_if ?_ | with_reducible refine x_next ?_ | with_reducible refine x_par ?_ | with_reducible refine x_par3 ?_ | with_reducible refine x_two ?_ | with_reducible refine x_three ?_ | with_reducible refine x_sfld ?_ | with_reducible refine x_retN ?_ | with_reducible refine x_brk ?_ | with_reducible refine x_name ?_ | with_reducible refine x_gsub ?_ | with_reducible refine x_gcons ?_ | with_reducible refine x_gnil ?_ | ((with_reducible apply x_gtup); (walk_at "hp"); exact rfl) | ((with_reducible apply x_var); exact rfl) | with_reducible refine x_c ?_ | with_reducible refine x_op ?_ | with_reducible refine x_un ?_ | with_reducible refine x_nil ?_ | with_reducible refine x_cons ?_ | with_reducible refine x_tup ?_ | with_reducible refine x_lst ?_ | with_reducible refine x_fldE ?_ | ((with_reducible apply x_fld); (walk_at "hp"); assumption; assumption; (walk_at "lk")) | with_reducible refine x_cal ?_ | with_reducible refine x_metE ?_ | with_reducible refine x_calS ?_ | with_reducible refine x_metS ?_ | ((with_reducible apply x_met); (walk_at "hp"); (walk_at "lk")) | with_reducible refine x_newI ?_ | with_reducible refine x_cb ?_ | with_reducible refine x_bm ?_ | with_reducible refine x_bm0 ?_ | ((with_reducible apply x_bmL); (walk_at "hp")) | with_reducible refine x_sl ?_ | with_reducible refine x_nop ?_ | with_reducible refine x_part ?_ | with_reducible refine x_kP ?_ | with_reducible refine x_ife ?_ | with_reducible refine x_andV ?_ | with_reducible refine x_orV ?_ | with_reducible refine x_notV ?_ | with_reducible refine x_test ?_ | with_reducible refine x_tB ?_ | with_reducible refine x_kB ?_ | with_reducible refine x_and ?_ | with_reducible refine x_or ?_ | with_reducible refine x_not ?_ | with_reducible refine k_T ?_ | with_reducible refine k_F ?_ | with_reducible refine k_not ?_ | walk_at "go2")
local macro_rules | `(tactic| walk_at "go2") => `(tactic| first | ((with_reducible apply x_setF); (walk_at "hp"); assumption; assumption; exact Nat.le_of_ble_eq_true rfl; exact rfl; intro _ _ _) | ((with_reducible apply x_append); (walk_at "hp"); (first | omega | (simp; omega)); intro _ _ _) | ((with_reducible apply x_setL); (walk_at "hp"); exact rfl; intro _ _ _) | with_reducible refine x_addI ?_ | with_reducible refine x_cmp ?_ | with_reducible refine x_subI ?_ | with_reducible refine x_eqI ?_ | with_reducible refine x_eqS ?_ | with_reducible refine x_neI ?_ | with_reducible refine x_neS ?_ | with_reducible refine x_isNo ?_ | with_reducible refine x_notNo ?_ | ((with_reducible apply x_modI); (first | omega | decide)) | ((with_reducible apply x_divI); (first | omega | decide); (first | omega | decide)) | ((with_reducible apply x_mulI); (first | exact .inl ⟨by omega, by omega⟩ | exact .inr ⟨by decide, by decide⟩ | exact .inr ⟨by omega, by omega⟩)) | ((with_reducible apply x_powI); exact ⟨by decide, by decide, by decide⟩) | ((with_reducible apply x_ixT); (walk_at "hp"); exact rfl) | ((with_reducible apply x_ixL); (walk_at "sq"); exact rfl) | ((with_reducible apply x_lenL); (walk_at "sq")) | ((with_reducible apply x_newT); exact Nat.le_of_ble_eq_true rfl; intro _ _ _ _ _) | ((with_reducible apply x_newL); exact Nat.le_of_ble_eq_true rfl; intro _ _ _ _ _) | with_reducible refine x_for ?_ | with_reducible refine x_iL ?_ | with_reducible refine x_iR1 ?_ | with_reducible refine x_iR2 ?_ | with_reducible refine x_iE ?_ | ((with_reducible apply x_kIL); (walk_at "sq")) | ((with_reducible apply x_kE); (walk_at "sq")) | with_reducible refine x_lc ?_ | with_reducible refine x_yes ?_ | ((with_reducible apply x_wp); exact rfl))
local macro_rules | `(tactic| walk_at "go") => `(tactic| (walk_at "go1"; repeat walk_at "go1"))
local macro_rules | `(tactic| walk_at "fr") => `(tactic| first | assumption | exact Kp.free (by assumption) _ (by walk_at "fr"))
local macro_rules | `(tactic| walk_at "lk") => `(tactic| first | exact lf_p _ _ | exact lf_d _ _ | exact lf_no _ _ (by decide +kernel) (by decide +kernel))
local macro_rules | `(tactic| walk_at "go1") => `(tactic| first | with_reducible refine x_rs ?_ | ((with_reducible apply x_niS); (walk_at "sq")) | ((with_reducible apply x_inS); (walk_at "sq")))
section
variable {P : Program} {w : World} {K : PySem.W.Frag} {mg : Str → Option Value} {base : Heap} {C : Addr}
/-! ### the errors' own __init__ -/
abbrev s_Twin_init : Stmt := inClass (top 8) 0
theorem sc_Twin_init : FnScope ["self", "name"] ["self", "name"] (defScope s_Twin_init) := ⟨rfl, rfl, rfl, by decide +kernel, rfl, by decide +kernel, by decide +kernel⟩
theorem I_Twin {CT D : Addr} {mc : Value} (T : OexC K CT) (GW : mg "WeldError" = some (.ref D)) (CW : CIni K D mc) (hno : PySem.W.findIn K (.ref CT) "name" = some none) (gC : mg "Twin" = some (.ref CT)) (M : MetAt K CT "__init__" "Twin.__init__" s_Twin_init ["self", "name"])
    (tI : ∀ f : Addr, PySem.W.isFn K (.ref f) = true → PySem.W.typeIn K (.ref f) = some (.type "function")) : ExcD P w K mg base "Twin" CT "name" := by
  obtain ⟨f, fd, F, hf, hi, b⟩ := M.ex
  refine ⟨gC, T, f, fd, _, hf, tI f hi, F.ok sc_Twin_init (fun vs H Q E h => by obtain ⟨a, v, rfl, _⟩ := h; rfl) fun cdv A outer s H vs Q E hr h => ⟨_, (pss_cons (ps_expr (pe_clsinit rfl GW CW (pa_cons (pv 0) (pa_cons pe_str pa_nil)))) (pss_one (ps_ost (pv 0) (pv 1)))), ?_⟩, b⟩
  obtain ⟨a, v, rfl, ha, k⟩ := h
  refine ⟨_, rfl, a, CT, _, rfl, Nat.le_of_ble_eq_true rfl, T, ha, ?_⟩
  exact ⟨_, rfl, _, rfl, a, CT, rfl, T, hno, .inl ⟨ha, fun dx h1 h2 => k dx h1 h2⟩⟩
/-! ### the Linker's defs -/
abbrev s_Linker_init : Stmt := inClass (top 14) 0
theorem sc_Linker_init : FnScope ["self"] ["self"] (defScope s_Linker_init) := ⟨rfl, rfl, rfl, by decide +kernel, rfl, by decide +kernel, by decide +kernel⟩
theorem M_init (cl : Cls K C) (nP : NoAttr K C "pieces") (nD : NoAttr K C "done") (M : MetAt K C "__init__" "Linker.__init__" s_Linker_init ["self"]) : Met P w K mg base CX0 C "__init__" 1 (spNew C) := by
  refine M.ok sc_Linker_init (fun vs H Q E h => by obtain ⟨a, v, rfl, _⟩ := h; rfl) fun f cdv A outer s H vs Q E hr h => ⟨_, (pss_cons (sfldK (K := K) (pv 0) (pe_lst pa_nil) rfl) (pss_one (sfldK (K := K) (pv 0) (pe_lst pa_nil) rfl))), ?_⟩
  obtain ⟨l, dx, rfl, hl, k⟩ := h
  refine x_body ?_
  walk_at "go"
  rename_i pl H1 k1 n1 e1 H2 k2 e2 dl H3 k3 n3 e3 H4 k4 e4
  have t4 : pl ≠ dl := by walk_at "ne"
  exact k pl dl H4 (by walk_at "kp") n1 (by walk_at "fr") ⟨⟨dx, e4⟩, by walk_at "hp", by walk_at "hp", (fun _ z => nomatch z), (fun _ z => nomatch z), by walk_at "ne"⟩
abbrev s_Linker_names : Stmt := inClass (top 14) 3
theorem sc_Linker_names : FnScope ["self", "piece"] ["self"] (defScope s_Linker_names) := ⟨rfl, rfl, rfl, by decide +kernel, rfl, by decide +kernel, by decide +kernel⟩
theorem M_names (cl : Cls K C) (nP : NoAttr K C "pieces") (M : MetAt K C "names" "Linker.names" s_Linker_names ["self"]) : Met P w K mg base CX0 C "names" 1 (spNames C) := by
  refine M.ok sc_Linker_names (fun vs H Q E h => by obtain ⟨l, pl, dl, ps, ds, rfl, _⟩ := h; rfl) fun f cdv A outer s H vs Q E hr h => ⟨_, (pss_one (ps_ret (pe_lc (own := [("piece", 1)]) (g := gName 1) rfl sc_Linker_names.nd (listIt (K := K) (fldK (K := K) (pv 0) rfl)) (blkOk_by (own := [("piece", 1)]) (N := ["self", "piece"]) (sc := defScope s_Linker_names) (by decide +kernel)) (fun _ _ _ _ _ => (pg_name (i := 1) sc_Linker_names.nd rfl (Or.inl rfl))) (fun _ _ _ _ _ => pts_nil) (fun _ _ _ _ _ => (pe_ix (ixK (K := K)) (pv 1) pe_int (fun _ _ => rfl)))))), ?_⟩
  obtain ⟨l, pl, dl, ps, ds, rfl, L, hz, kk⟩ := h
  refine x_body ?_
  obtain ⟨⟨dx, hi⟩, hp, hd, pok, dok, ne⟩ := id L
  walk_at "go"
  refine k_lc (walk_list (K := K) (a := pl) (xs := ps.map fun c => V.ref c.p)) [] (fun i ys H' => ys = ((ps.map (·.nm)).take i).map V.str) (fun _ _ _ _ _ => rfl) (fun i ys H' _ k _ => SqL.of (k.get hp List.not_mem_nil)) ?_ ?_
  · rintro i x ys D H1 H2 hi' hD k d l p ⟨rfl, hx⟩
    obtain ⟨c, hc, rfl⟩ := List.getElem?_map .. ▸ hx |> fun z => Option.map_eq_some_iff.mp z
    obtain ⟨y1, y2, ht⟩ := ((pok c (List.mem_of_getElem? hc)).kp k).tup
    walk_at "go"
    refine x_el hD hi' (by rw [List.length_map]; omega) l k d fun H6 _ _ => ?_
    rw [List.take_succ, List.getElem?_map, hc, List.map_append, ← p]
    rfl
  · intro D ys H' hD k d l p
    rw [p, List.length_map, ← List.length_map (f := fun c : Pc => c.nm), List.take_length] at d
    exact kk D H' k hD d
abbrev s_NoPiece_init : Stmt := inClass (top 9) 0
theorem sc_NoPiece_init : FnScope ["self", "name"] ["self", "name"] (defScope s_NoPiece_init) := ⟨rfl, rfl, rfl, by decide +kernel, rfl, by decide +kernel, by decide +kernel⟩
theorem I_NoPiece {CT D : Addr} {mc : Value} (T : OexC K CT) (GW : mg "WeldError" = some (.ref D)) (CW : CIni K D mc) (hno : PySem.W.findIn K (.ref CT) "name" = some none) (gC : mg "NoPiece" = some (.ref CT)) (M : MetAt K CT "__init__" "NoPiece.__init__" s_NoPiece_init ["self", "name"])
    (tI : ∀ f : Addr, PySem.W.isFn K (.ref f) = true → PySem.W.typeIn K (.ref f) = some (.type "function")) : ExcD P w K mg base "NoPiece" CT "name" := by
  obtain ⟨f, fd, F, hf, hi, b⟩ := M.ex
  refine ⟨gC, T, f, fd, _, hf, tI f hi, F.ok sc_NoPiece_init (fun vs H Q E h => by obtain ⟨a, v, rfl, _⟩ := h; rfl) fun cdv A outer s H vs Q E hr h => ⟨_, (pss_cons (ps_expr (pe_clsinit rfl GW CW (pa_cons (pv 0) (pa_cons pe_str pa_nil)))) (pss_one (ps_ost (pv 0) (pv 1)))), ?_⟩, b⟩
  obtain ⟨a, v, rfl, ha, k⟩ := h
  refine ⟨_, rfl, a, CT, _, rfl, Nat.le_of_ble_eq_true rfl, T, ha, ?_⟩
  exact ⟨_, rfl, _, rfl, a, CT, rfl, T, hno, .inl ⟨ha, fun dx h1 h2 => k dx h1 h2⟩⟩
abbrev s_TooMany_init : Stmt := inClass (top 11) 0
theorem sc_TooMany_init : FnScope ["self", "most"] ["self", "most"] (defScope s_TooMany_init) := ⟨rfl, rfl, rfl, by decide +kernel, rfl, by decide +kernel, by decide +kernel⟩
theorem I_TooMany {CT D : Addr} {mc : Value} (T : OexC K CT) (GW : mg "WeldError" = some (.ref D)) (CW : CIni K D mc) (hno : PySem.W.findIn K (.ref CT) "most" = some none) (gC : mg "TooMany" = some (.ref CT)) (M : MetAt K CT "__init__" "TooMany.__init__" s_TooMany_init ["self", "most"])
    (tI : ∀ f : Addr, PySem.W.isFn K (.ref f) = true → PySem.W.typeIn K (.ref f) = some (.type "function")) : ExcD P w K mg base "TooMany" CT "most" := by
  obtain ⟨f, fd, F, hf, hi, b⟩ := M.ex
  refine ⟨gC, T, f, fd, _, hf, tI f hi, F.ok sc_TooMany_init (fun vs H Q E h => by obtain ⟨a, v, rfl, _⟩ := h; rfl) fun cdv A outer s H vs Q E hr h => ⟨_, (pss_cons (ps_expr (pe_clsinit rfl GW CW (pa_cons (pv 0) (pa_cons pe_str pa_nil)))) (pss_one (ps_ost (pv 0) (pv 1)))), ?_⟩, b⟩
  obtain ⟨a, v, rfl, ha, k⟩ := h
  refine ⟨_, rfl, a, CT, _, rfl, Nat.le_of_ble_eq_true rfl, T, ha, ?_⟩
  exact ⟨_, rfl, _, rfl, a, CT, rfl, T, hno, .inl ⟨ha, fun dx h1 h2 => k dx h1 h2⟩⟩
abbrev s_Linker_len : Stmt := inClass (top 14) 2
theorem sc_Linker_len : FnScope ["self"] ["self"] (defScope s_Linker_len) := ⟨rfl, rfl, rfl, by decide +kernel, rfl, by decide +kernel, by decide +kernel⟩
theorem M_len (Z : Blt mg) (cl : Cls K C) (nP : NoAttr K C "pieces") (M : MetAt K C "__len__" "Linker.__len__" s_Linker_len ["self"]) : Met P w K mg base CX0 C "__len__" 1 (spLen C) := by
  refine M.ok sc_Linker_len (fun vs H Q E h => by obtain ⟨l, pl, dl, ps, ds, rfl, _⟩ := h; rfl) fun f cdv A outer s H vs Q E hr h => ⟨_, (pss_one (ps_ret (pe_callB (lenK (K := K)) (by rfl) Z.len PySem.boot_len (pa_cons (fldK (K := K) (pv 0) rfl) pa_nil)))), ?_⟩
  obtain ⟨l, pl, dl, ps, ds, rfl, L, kk⟩ := h
  refine x_body ?_
  obtain ⟨⟨dx, hi⟩, hp, hd, pok, dok, ne⟩ := id L
  walk_at "go"
  rw [List.length_map]
  exact kk
theorem x_refuse {Cx : Addr} {f : Str} {E : XK} {v : V} {H H1 : Hp} (k : Kp [] H H1) (h : Refused E H Cx f v) : kMk Cx f (fun cls d H' => E cls d H') [v] H1 :=
  x_mk fun d H' k' n e => h d H' (k.trans k') (k.free _ n) e
abbrev s_Linker_spot : Stmt := inClass (top 14) 4
theorem sc_Linker_spot : FnScope ["self", "name", "at", "piece"] ["self", "name"] (defScope s_Linker_spot) := ⟨rfl, rfl, rfl, by decide +kernel, rfl, by decide +kernel, by decide +kernel⟩
theorem M_spot {CN : Addr} (Z : Blt mg) (cl : Cls K C) (nP : NoAttr K C "pieces") (X_NoPiece : ExcD P w K mg base "NoPiece" CN "name") (M : MetAt K C "spot" "Linker.spot" s_Linker_spot ["self", "name"]) : Met P w K mg base (L2.CX P w) C "spot" 3 (spSpot C CN) := by
  refine M.okX sc_Linker_spot (fun vs H Q E h => by obtain ⟨l, nm, pl, dl, ps, ds, rfl, _⟩ := h; rfl) fun f cdv A outer s H vs Q E hr h => ⟨_, (pss_cons (ps_for (passes_of rfl) rfl (enumIt (K := K) (by rfl) Z.enumerate (pa_cons (fldK (K := K) (pv 0) rfl) pa_nil)) (gtupK (K := K) rfl (pgs_cons (pg_name (i := 2) sc_Linker_spot.nd rfl (Or.inl rfl)) (pgs_cons (pg_name (i := 3) sc_Linker_spot.nd rfl (Or.inl rfl)) pgs_nil))) (pss_one (ps_if (pt_cmpR (eqK (K := K) hr.units) (pe_ix (ixK (K := K)) (pv 3) pe_int (fun _ _ => rfl)) (pv 1) (nomark _)) (pss_one (ps_ret (pv 2))) pss_nil))) (pss_one (ps_rs rfl (takes_of rfl rfl rfl rfl) X_NoPiece (hr.mono (by decide)) (pa_cons (pv 1) pa_nil)))), ?_⟩
  obtain ⟨l, nm, pl, dl, ps, ds, rfl, L, hz, kk, kE⟩ := h
  refine x_body ?_
  obtain ⟨⟨dx, hi⟩, hp, hd, pok, dok, ne⟩ := id L
  walk_at "go"
  refine k_forE (fun i σ H' => ∃ v2 v3, σ = [some (.ref l), some (.str nm), v2, v3] ∧ Kp [] H H' ∧ ∀ (j : Nat) c, j < i → ps[j]? = some c → c.nm ≠ nm) ⟨none, none, rfl, Kp.refl _ _, fun j c z _ => absurd z (Nat.not_lt_zero j)⟩ (fun i σ H' _ ⟨_, _, _, k, _⟩ => SqL.of (k.get hp List.not_mem_nil)) ?_ ?_
  · rintro i x σ H1 T H2 hx ⟨v2, v3, rfl, k, no⟩ k2 nT eT
    obtain ⟨c, hc, rfl⟩ := Option.map_eq_some_iff.mp (List.getElem?_map .. ▸ hx)
    obtain ⟨y1, y2, ht⟩ := ((pok c (List.mem_of_getElem? hc)).kp (k.trans k2)).tup
    walk_at "go"
    refine k_dec (fun e => ?_) (fun e => ?_)
    · walk_at "go"
      exact kk i c _ hc e (k.trans k2)
    · walk_at "go"
      refine ⟨_, _, rfl, k.trans k2, fun j c' hj hc' => ?_⟩
      by_cases z : j = i
      · rw [z, hc] at hc'
        cases hc'
        exact e
      · exact no j c' (by omega) hc'
  · rintro σ H1 ⟨v2, v3, rfl, k, no⟩
    walk_at "go"
    refine x_refuse k (kE fun c hc => ?_)
    obtain ⟨j, hj⟩ := List.getElem?_of_mem hc
    have hl : j < ps.length := (List.getElem?_eq_some_iff.mp hj).1
    exact no j c (by rw [List.length_map]; exact hl) hj
theorem ixN_nat {n k : Nat} (h : k < n) : ixN n (k : Int) = some k := by
  unfold ixN
  rw [if_pos (by omega), if_pos (by omega)]
  rfl
theorem erase_map {α β : Type} (f : α → β) : ∀ (l : List α) (i : Nat), (l.map f).eraseIdx i = (l.eraseIdx i).map f
  | [], i => by simp
  | a :: r, 0 => by simp
  | a :: r, i + 1 => by
    have ih := erase_map f r i
    simp [ih]
theorem Lk.put {l pl dl a : Addr} {ps qs : List Pc} {ds : List Dn} {e : Dn} {H H' : Hp} (L : Lk C H l pl dl ps ds) (k : Kp [pl, dl] H H') (hp : H' pl = some (.lst (qs.map fun c => V.ref c.p))) (hd : H' dl = some (.lst ((ds.map fun e => V.ref e.a) ++ [.ref a])))
    (he : DnAt H' ⟨a, e.k, e.at_, e.pc⟩) (hq : ∀ c ∈ qs, PcAt H' c) : Lk C H' l pl dl qs (ds ++ [⟨a, e.k, e.at_, e.pc⟩]) := by
  obtain ⟨⟨dx, hi⟩, hp0, hd0, pok, dok, ne⟩ := L
  refine ⟨⟨dx, k.get hi (by walk_at "ni")⟩, hp, ?_, hq, fun x hx => ?_, ne⟩
  · rw [hd, List.map_append]
    rfl
  · rcases List.mem_append.mp hx with hx | hx
    · exact (dok x hx).kp k
    · rw [List.mem_singleton.mp hx]
      exact he
abbrev s_Linker_put : Stmt := inClass (top 14) 5
theorem sc_Linker_put : FnScope ["self", "piece"] ["self", "piece"] (defScope s_Linker_put) := ⟨rfl, rfl, rfl, by decide +kernel, rfl, by decide +kernel, by decide +kernel⟩
theorem M_put {CM CT : Addr} {tk : Tok} (Z : Blt mg) (cl : Cls K C) (nP : NoAttr K C "pieces") (nD : NoAttr K C "done") (gMP : mg "MOST_PIECES" = some (.int 30 tk)) (X_TooMany : ExcD P w K mg base "TooMany" CM "most") (X_Twin : ExcD P w K mg base "Twin" CT "name")
    (M_names : Met P w K mg base CX0 C "names" 1 (spNames C)) (M : MetAt K C "put" "Linker.put" s_Linker_put ["self", "piece"]) : Met P w K mg base (L2.CX P w) C "put" 3 (spPut C CM CT) := by
  refine M.okX sc_Linker_put (fun vs H Q E h => by obtain ⟨l, pl, dl, c, ps, ds, rfl, _⟩ := h; rfl) fun f cdv A outer s H vs Q E hr h => ⟨_, (pss_cons (ps_if (pt_cmpR op_geI (pe_callB (lenK (K := K)) (by rfl) Z.len PySem.boot_len (pa_cons (fldK (K := K) (pv 0) rfl) pa_nil)) (pe_glob (v := .int 30) rfl gMP ⟨_, rfl⟩) (nomark _)) (pss_one (ps_rs rfl (takes_of rfl rfl rfl rfl) X_TooMany (hr.mono (by decide)) (pa_cons (pe_glob (v := .int 30) rfl gMP ⟨_, rfl⟩) pa_nil))) pss_nil) (pss_cons (ps_if (pt_cmpR (inK (K := K)) (pe_ix (ixK (K := K)) (pv 1) pe_int (fun _ _ => rfl)) (pe_met0 M_names cl (hr.mono (by decide)) pass0 (pv 0)) (by rfl)) (pss_one (ps_rs rfl (takes_of rfl rfl rfl rfl) X_Twin (hr.mono (by decide)) (pa_cons (pe_ix (ixK (K := K)) (pv 1) pe_int (fun _ _ => rfl)) pa_nil))) pss_nil) (pss_cons (ps_expr (bmK (K := K) PySem.F.plainAttrs_list PySem.F.slot_list_append PySem.F.type_list_append mt_append (fldK (K := K) (pv 0) rfl) (pa_cons (pv 1) pa_nil))) (pss_one (ps_expr (bmK (K := K) PySem.F.plainAttrs_list PySem.F.slot_list_append PySem.F.type_list_append mt_append (fldK (K := K) (pv 0) rfl) (pa_cons (pe_tup (pa_cons pe_str (pa_cons (pe_op op_subI (pe_callB (lenK (K := K)) (by rfl) Z.len PySem.boot_len (pa_cons (fldK (K := K) (pv 0) rfl) pa_nil)) pe_int) (pa_cons pe_non pa_nil)))) pa_nil))))))), ?_⟩
  obtain ⟨l, pl, dl, c, ps, ds, rfl, L, hc, hz, hz2, k1, k2, k3⟩ := h
  refine x_body ?_
  obtain ⟨⟨dx, hi⟩, hp, hd, pok, dok, ne⟩ := id L
  obtain ⟨y1, y2, ht⟩ := hc.tup
  have hlen : (ps.map fun c => V.ref c.p).length = ps.length := List.length_map ..
  walk_at "go"
  refine k_dec (fun h => ?_) (fun h => ?_)
  · walk_at "go"
    exact x_refuse (Kp.refl _ _) (k1 (by omega))
  · walk_at "go"
    refine ⟨l, pl, dl, ps, ds, rfl, L, hz, fun p H1 kp hn e => ?_⟩
    have ht1 := kp.tup ht
    walk_at "go"
    refine k_dec (fun h2 => ?_) (fun h2 => ?_)
    · walk_at "go"
      exact x_refuse kp (k2 (by omega) h2)
    · walk_at "go"
      rename_i H2 kp2 e2 T H3 kp3 hn3 e3 H4 kp4 e4
      have e4' : H4 pl = some (.lst ((ps ++ [c]).map fun c => V.ref c.p)) := by
        rw [List.map_append]
        walk_at "hp"
      have kk : Kp [pl, dl] H H4 := (((kp.nil (fp := [pl, dl])).trans (kp2.mono (by simp))).trans (kp3.nil)).trans (kp4.mono (by simp))
      have e3' := kp4.tup e3
      have en : ((((ps.map fun c => V.ref c.p) ++ [V.ref c.p]).length : Nat) : Int) - 1 = (ps.length : Int) := by
        rw [List.length_append, hlen]
        simp
      rw [en] at e3'
      refine k3 (by omega) h2 T H4 kk (Lk.put (e := ⟨T, .put, ps.length, none⟩) L kk e4' e4 ⟨e3', fun c z => nomatch z⟩ fun x hx => ?_)
      · rcases List.mem_append.mp hx with hx | hx
        · exact (pok x hx).kp kk
        · rw [List.mem_singleton.mp hx]
          exact hc.kp kk
abbrev s_Linker_exchange : Stmt := inClass (top 14) 6
theorem sc_Linker_exchange : FnScope ["self", "piece", "at"] ["self", "piece"] (defScope s_Linker_exchange) := ⟨rfl, rfl, rfl, by decide +kernel, rfl, by decide +kernel, by decide +kernel⟩
theorem M_exchange {CN : Addr} (Z : Blt mg) (cl : Cls K C) (nP : NoAttr K C "pieces") (nD : NoAttr K C "done") (M_spot : Met P w K mg base (L2.CX P w) C "spot" 3 (spSpot C CN)) (M : MetAt K C "exchange" "Linker.exchange" s_Linker_exchange ["self", "piece"]) :
    Met P w K mg base (L2.CX P w) C "exchange" 4 (spExch C CN) := by
  refine M.okX sc_Linker_exchange (fun vs H Q E h => by obtain ⟨l, pl, dl, c, ps, ds, rfl, _⟩ := h; rfl) fun f cdv A outer s H vs Q E hr h => ⟨_, (pss_cons (ps_set (i := 2) sc_Linker_exchange.nd rfl (Or.inl rfl) (pe_met M_spot cl (hr.mono (by decide)) (passes_call (takes_of rfl rfl rfl rfl) fun _ _ _ _ h => h) (pv 0) (pa_cons (pe_ix (ixK (K := K)) (pv 1) pe_int (fun _ _ => rfl)) pa_nil))) (pss_cons (ps_expr (bmK (K := K) PySem.F.plainAttrs_list PySem.F.slot_list_append PySem.F.type_list_append mt_append (fldK (K := K) (pv 0) rfl) (pa_cons (pe_tup (pa_cons pe_str (pa_cons (pv 2) (pa_cons (pe_ix (ixK (K := K)) (fldK (K := K) (pv 0) rfl) (pv 2) (fun _ _ => rfl)) pa_nil)))) pa_nil))) (pss_one (ps_asg (pv 1) (pg_sub (fldK (K := K) (pv 0) rfl) (pv 2) set_list))))), ?_⟩
  obtain ⟨l, pl, dl, c, ps, ds, rfl, L, hc, hz, hz2, k1, k2⟩ := h
  refine x_body ?_
  obtain ⟨⟨dx, hi⟩, hp, hd, pok, dok, ne⟩ := id L
  obtain ⟨y1, y2, ht⟩ := hc.tup
  have hlen : (ps.map fun c => V.ref c.p).length = ps.length := List.length_map ..
  walk_at "go"
  refine ⟨l, c.nm, pl, dl, ps, ds, rfl, L, hz, fun i o H1 ho en kp => ?_, fun no => k2 no⟩
  have hil : i < ps.length := (List.getElem?_eq_some_iff.mp ho).1
  have hix : atI (ps.map fun c => V.ref c.p) (i : Int) = some (V.ref o.p) := atI_nat (by rw [List.getElem?_map, ho]; rfl)
  have ho1 : PcAt H1 o := (pok o (List.mem_of_getElem? ho)).kp kp
  walk_at "go"
  refine x_ixL (by walk_at "sq") hix ?_
  walk_at "go"
  rename_i T H2 kp2 hn2 e2 H3 kp3 e3
  have hp3 : H3 pl = some (.lst (ps.map fun c => V.ref c.p)) := by walk_at "hp"
  have hi3 : H3 l = some (.ins C dx (lf pl dl)) := by walk_at "hp"
  refine x_setL hp3 (ixN_nat (k := i) (by rw [hlen]; exact hil)) fun H4 kp4 e4 => ?_
  have e3' : H4 dl = some (.lst ((ds.map fun e => V.ref e.a) ++ [V.ref T])) := by walk_at "hp"
  have e2' : H4 T = some (.tup [.str "exchanged", .int (i : Int), .ref o.p]) := by walk_at "hp"
  have ho4 : PcAt H4 o := ((ho1.kp kp2).kp kp3).kp kp4
  have kk : Kp [pl, dl] H H4 := (((kp.nil (fp := [pl, dl])).trans kp2.nil).trans (kp3.mono (by simp))).trans (kp4.mono (by simp))
  refine k1 i o T H4 ho en kk (Lk.put (e := ⟨T, .exch, i, some o⟩) L kk (by rw [e4, List.map_set]) e3' ⟨e2', fun c' z => by cases z; exact ho4⟩ fun x hx => ?_)
  rcases List.mem_or_eq_of_mem_set hx with hx | hx
  · exact (pok x hx).kp kk
  · rw [hx]
    exact hc.kp kk
abbrev s_Linker_take_out : Stmt := inClass (top 14) 7
theorem sc_Linker_take_out : FnScope ["self", "name", "at"] ["self", "name"] (defScope s_Linker_take_out) := ⟨rfl, rfl, rfl, by decide +kernel, rfl, by decide +kernel, by decide +kernel⟩
theorem M_take_out {CN : Addr} (Z : Blt mg) (cl : Cls K C) (nP : NoAttr K C "pieces") (nD : NoAttr K C "done") (M_spot : Met P w K mg base (L2.CX P w) C "spot" 3 (spSpot C CN)) (M : MetAt K C "take_out" "Linker.take_out" s_Linker_take_out ["self", "name"]) :
    Met P w K mg base (L2.CX P w) C "take_out" 4 (spTake C CN) := by
  refine M.okX sc_Linker_take_out (fun vs H Q E h => by obtain ⟨l, pl, dl, c, ps, ds, rfl, _⟩ := h; rfl) fun f cdv A outer s H vs Q E hr h => ⟨_, (pss_cons (ps_set (i := 2) sc_Linker_take_out.nd rfl (Or.inl rfl) (pe_met M_spot cl (hr.mono (by decide)) (passes_call (takes_of rfl rfl rfl rfl) fun _ _ _ _ h => h) (pv 0) (pa_cons (pv 1) pa_nil))) (pss_one (ps_expr (bmK (K := K) PySem.F.plainAttrs_list PySem.F.slot_list_append PySem.F.type_list_append mt_append (fldK (K := K) (pv 0) rfl) (pa_cons (pe_tup (pa_cons pe_str (pa_cons (pv 2) (pa_cons (bmK (K := K) PySem.F.plainAttrs_list PySem.F.slot_list_pop PySem.F.type_list_pop mt_popAt (fldK (K := K) (pv 0) rfl) (pa_cons (pv 2) pa_nil)) pa_nil)))) pa_nil))))), ?_⟩
  obtain ⟨l, pl, dl, nm, ps, ds, rfl, L, hz, hz2, k1, k2⟩ := h
  refine x_body ?_
  obtain ⟨⟨dx, hi⟩, hp, hd, pok, dok, ne⟩ := id L
  have hlen : (ps.map fun c => V.ref c.p).length = ps.length := List.length_map ..
  walk_at "go"
  refine ⟨l, nm, pl, dl, ps, ds, rfl, L, hz, fun i o H1 ho en kp => ?_, fun no => k2 no⟩
  have hil : i < ps.length := (List.getElem?_eq_some_iff.mp ho).1
  have ho1 : PcAt H1 o := (pok o (List.mem_of_getElem? ho)).kp kp
  walk_at "go"
  refine x_popAt (by walk_at "hp") (by rw [List.getElem?_map, ho]; rfl) (by omega) fun H2 kp2 e2 => ?_
  walk_at "go"
  rename_i T H3 kp3 hn3 e3 H4 kp4 e4
  have e2' : H4 pl = some (.lst ((ps.map fun c => V.ref c.p).eraseIdx i)) := by walk_at "hp"
  have e3' : H4 T = some (.tup [.str "taken", .int (i : Int), .ref o.p]) := by walk_at "hp"
  have ho4 : PcAt H4 o := ((ho1.kp kp2).kp kp3).kp kp4
  have kk : Kp [pl, dl] H H4 := (((kp.nil (fp := [pl, dl])).trans (kp2.mono (by simp))).trans kp3.nil).trans (kp4.mono (by simp))
  refine k1 i o T H4 ho en kk (Lk.put (e := ⟨T, .take, i, some o⟩) L kk (by rw [e2', erase_map]) e4 ⟨e3', fun c' z => by cases z; exact ho4⟩ fun x hx => ?_)
  exact (pok x (List.mem_of_mem_eraseIdx hx)).kp kk
theorem tpAll_map {α : Type} {H : Hp} (f : α → V) (g : α → PyData) : ∀ {l : List α}, (∀ x ∈ l, Tp H (f x) (g x)) → TpAll H (l.map f) (l.map g)
  | [], _ => .nil
  | a :: l, h => .cons (h a List.mem_cons_self) (tpAll_map f g fun x hx => h x (List.mem_cons_of_mem _ hx))
theorem dp_list {K : PySem.W.Frag} {α : Type} {H : Hp} {a : Addr} {f : α → V} {g : α → PyData} {l : List α} (e : H a = some (.lst (l.map f))) (h : ∀ x ∈ l, Tp H (f x) (g x)) : Dp K H (.ref a) (.list (l.map g)) := .lst (SqL.of e) (tpAll_map f g h).dp
theorem shp_list {α : Type} {n : Nat} {g : α → PyData} {l : List α} (h : ∀ x ∈ l, Shp n (g x)) : Shp (n + 1) (.list (l.map g)) := Shp.list fun d hd => by
  obtain ⟨x, hx, rfl⟩ := List.mem_map.mp hd
  exact h x hx
abbrev s_Linker_eq : Stmt := inClass (top 14) 1
theorem sc_Linker_eq : FnScope ["self", "other"] ["self", "other"] (defScope s_Linker_eq) := ⟨rfl, rfl, rfl, by decide +kernel, rfl, by decide +kernel, by decide +kernel⟩
theorem M_eq (Z : Blt mg) (cl : Cls K C) (nP : NoAttr K C "pieces") (gL : mg "Linker" = some (.ref C)) (ti : ∀ (H : Hp) (l pl dl dx : Addr), H l = some (.ins C dx (lf pl dl)) → TyX K H (.ref l) (.ref C)) (kit : PySem.W.kitOne K (.ref C) (.ref C) = some true)
    (M : MetAt K C "__eq__" "Linker.__eq__" s_Linker_eq ["self", "other"]) : Met P w K mg base CX0 C "__eq__" 1 (spEqL C) := by
  refine M.ok sc_Linker_eq (fun vs H Q E h => by obtain ⟨l, pl, dl, m, ql, el, ps, qs, ds, es, rfl, _⟩ := h; rfl) fun f cdv A outer s H vs Q E hr h => ⟨_, (pss_one (ps_ret (pe_and (pe_callB (isiK (K := K)) (by rfl) Z.isinstance (by decide +kernel) (pa_cons (pv 1) (pa_cons (pe_glob (v := .ref _) rfl gL rfl) pa_nil))) (pe_one (pe_cmpR (eqK (K := K) hr.units) (fldK (K := K) (pv 0) rfl) (fldK (K := K) (pv 1) rfl) (nomark _)))))), ?_⟩
  obtain ⟨l, pl, dl, m, ql, el, ps, qs, ds, es, rfl, L, L', kk⟩ := h
  refine x_body ?_
  obtain ⟨⟨dx, hi⟩, hp, hd, pok, dok, ne⟩ := id L
  obtain ⟨⟨dx', hi'⟩, hp', hd', pok', dok', ne'⟩ := id L'
  walk_at "go"
  refine ⟨_, _, _, _, true, rfl, .own C, ti _ _ _ _ _ hi', kit, ?_⟩
  walk_at "go"
  refine x_eqD (dp_list hp fun c hc => (pok c hc).dat) (dp_list hp' fun c hc => (pok' c hc).dat) ((shp_list fun c hc => (pok c hc).shp).mono (by decide)) ((shp_list fun c hc => (pok' c hc).shp).mono (by decide)) kk
abbrev s_Linker_undo : Stmt := inClass (top 14) 8
theorem sc_Linker_undo : FnScope ["self", "word", "at", "piece"] ["self"] (defScope s_Linker_undo) := ⟨rfl, rfl, rfl, by decide +kernel, rfl, by decide +kernel, by decide +kernel⟩
theorem M_undo (Z : Blt mg) (cl : Cls K C) (nP : NoAttr K C "pieces") (nD : NoAttr K C "done") (M : MetAt K C "undo" "Linker.undo" s_Linker_undo ["self"]) : Met P w K mg base CX0 C "undo" 1 (spUndo C) := by
  refine M.ok sc_Linker_undo (fun vs H Q E h => by obtain ⟨l, pl, dl, ps, ds, rfl, _⟩ := h; rfl) fun f cdv A outer s H vs Q E hr h => ⟨_, (pss_cons (ps_if (pt_cmpR (eqK (K := K) hr.units) (fldK (K := K) (pv 0) rfl) (pe_lst pa_nil) (nomark _)) (pss_one (ps_ret pe_non)) pss_nil) (pss_cons (ps_asg (bm0K (K := K) PySem.F.plainAttrs_list PySem.F.slot_list_pop PySem.F.type_list_pop mt_pop (fldK (K := K) (pv 0) rfl)) (gtupK (K := K) rfl (pgs_cons (pg_name (i := 1) sc_Linker_undo.nd rfl (Or.inl rfl)) (pgs_cons (pg_name (i := 2) sc_Linker_undo.nd rfl (Or.inl rfl)) (pgs_cons (pg_name (i := 3) sc_Linker_undo.nd rfl (Or.inl rfl)) pgs_nil))))) (pss_cons (ps_if (pt_cmpR (eqK (K := K) hr.units) (pv 1) pe_str (nomark _)) (pss_one (ps_expr (bmK (K := K) PySem.F.plainAttrs_list PySem.F.slot_list_pop PySem.F.type_list_pop mt_popAt (fldK (K := K) (pv 0) rfl) (pa_cons (pv 2) pa_nil)))) (pss_one (ps_if (pt_cmpR (eqK (K := K) hr.units) (pv 1) pe_str (nomark _)) (pss_one (ps_asg (pv 3) (pg_sub (fldK (K := K) (pv 0) rfl) (pv 2) set_list))) (pss_one (ps_expr (bmK (K := K) PySem.F.plainAttrs_list PySem.F.slot_list_insert PySem.F.type_list_insert mt_ins (fldK (K := K) (pv 0) rfl) (pa_cons (pv 2) (pa_cons (pv 3) pa_nil)))))))) (pss_one (ps_ret (pv 1)))))), ?_⟩
  obtain ⟨l, pl, dl, ps, ds, rfl, L, hz, k0, k1⟩ := h
  refine x_body ?_
  obtain ⟨⟨dx, hi⟩, hp, hd, pok, dok, ne⟩ := id L
  have hlen : (ps.map fun c => V.ref c.p).length = ps.length := List.length_map ..
  walk_at "go"
  rename_i q Hq kq nq eq
  have hdq : Hq dl = some (.lst (ds.map fun e => V.ref e.a)) := by walk_at "hp"
  refine x_eqD (dp_list hdq fun e he => ((dok e he).kp kq).tp) (.lst (SqL.of eq) .nil) ((shp_list fun e he => (dok e he).shp).mono (by decide)) ((Shp.list (n := 1) (ds := []) fun _ z => nomatch z).mono (by decide)) ?_
  rcases List.eq_nil_or_concat ds with e0 | ⟨es, e, e0⟩
  · walk_at "go"
    refine k_bT (by rw [e0]; rfl) ?_
    walk_at "go"
    exact k0 e0 Hq kq
  · rw [List.concat_eq_append] at e0
    walk_at "go"
    refine k_bF (by rw [e0, PyData.eqv]; cases es <;> rfl) ?_
    obtain ⟨qs, hu, kk⟩ := k1 es e e0
    have hde := dok e (by rw [e0]; simp)
    walk_at "go"
    refine x_pop (y := .ref e.a) hdq (by rw [e0]; simp) fun H1 kp1 e1 => ?_
    have ht1 : H1 e.a = some (.tup [.str e.k.w, .int (e.at_ : Int), pcV e.pc]) := kp1.tup (kq.tup hde.tup)
    have hp1 : H1 pl = some (.lst (ps.map fun c => V.ref c.p)) := by walk_at "hp"
    have hi1 : H1 l = some (.ins C dx (lf pl dl)) := by walk_at "hp"
    have hk1 : Kp [pl, dl] H H1 := (kq.nil (fp := [pl, dl])).trans (kp1.mono (by simp))
    have hd1 : H1 dl = some (.lst (es.map fun e => V.ref e.a)) := by
      rw [e1, e0, List.map_append, List.map_singleton, List.dropLast_concat]
    have hlk : ∀ (qs : List Pc) (H2 : Hp), Kp [pl] H1 H2 → H2 pl = some (.lst (qs.map fun c => V.ref c.p)) → (∀ c ∈ qs, PcAt H2 c) → Lk C H2 l pl dl qs es := fun qs H2 k2 e2 hq =>
      ⟨⟨dx, by walk_at "hp"⟩, e2, by walk_at "hp", hq, fun x hx => (dok x (by rw [e0]; simp [hx])).kp (hk1.trans (k2.mono (by simp))), ne⟩
    have hkk : ∀ {H2 : Hp}, Kp [pl] H1 H2 → Kp [pl, dl] H H2 := fun k2 => hk1.trans (k2.mono (by simp))
    walk_at "go"
    obtain ⟨ea, ek, eat, epc⟩ := e
    cases ek with
    | put =>
      obtain ⟨hlt, rfl⟩ : eat < ps.length ∧ qs = ps.eraseIdx eat := hu
      refine k_is rfl ?_
      walk_at "go"
      refine x_popAt (k := eat) hp1 (by rw [List.getElem?_map, List.getElem?_eq_getElem hlt]; rfl) (by omega) fun H2 k2 e2 => ?_
      walk_at "go"
      exact kk H2 (hkk k2) (hlk _ H2 k2 (by rw [e2, erase_map]) fun c hc => (pok c (List.mem_of_mem_eraseIdx hc)).kp (hkk k2))
    | exch =>
      cases epc with
      | none => exact (show False from hu).elim
      | some c =>
        obtain ⟨hlt, rfl⟩ : eat < ps.length ∧ qs = ps.set eat c := hu
        refine k_no (show ¬ ("exchanged" : Str) = "put" by decide +kernel) ?_
        walk_at "go"
        refine k_is rfl ?_
        walk_at "go"
        refine x_setL hp1 (ixN_nat (k := eat) (by rw [hlen]; exact hlt)) fun H2 k2 e2 => ?_
        walk_at "go"
        refine kk H2 (hkk k2) (hlk _ H2 k2 (by rw [e2, List.map_set]; rfl) fun x hx => ?_)
        rcases List.mem_or_eq_of_mem_set hx with hx | hx
        · exact (pok x hx).kp (hkk k2)
        · rw [hx]
          exact (hde.pc c rfl).kp (hkk k2)
    | take =>
      cases epc with
      | none => exact (show False from hu).elim
      | some c =>
        obtain ⟨hlt, rfl⟩ : eat ≤ ps.length ∧ qs = ps.take eat ++ [c] ++ ps.drop eat := hu
        refine k_no (show ¬ ("taken" : Str) = "put" by decide +kernel) ?_
        walk_at "go"
        refine k_no (show ¬ ("taken" : Str) = "exchanged" by decide +kernel) ?_
        walk_at "go"
        refine x_insert (k := eat) hp1 (by rw [hlen]; omega) (by omega) fun H2 k2 e2 => ?_
        walk_at "go"
        refine kk H2 (hkk k2) (hlk _ H2 k2 (by rw [e2, List.map_append, List.map_append, List.map_take, List.map_drop]; rfl) fun x hx => ?_)
        rcases List.mem_append.mp hx with hx | hx
        · rcases List.mem_append.mp hx with hx | hx
          · exact (pok x (List.mem_of_mem_take hx)).kp (hkk k2)
          · rw [List.mem_singleton.mp hx]
            exact (hde.pc c rfl).kp (hkk k2)
        · exact (pok x (List.mem_of_mem_drop hx)).kp (hkk k2)
end
end WM
set_option Elab.async false
set_option linter.all false
set_option maxRecDepth 100000
set_option maxHeartbeats 2000000
namespace WM
open PySem PySem.Spec PyProof.Rows L2
local macro_rules | `(tactic| walk_at "ne") => `(tactic| first | assumption | exact Ne.symm (by assumption) | exact ne_fresh (by assumption) (by walk_at "hp") | exact (ne_fresh (by assumption) (by walk_at "hp")).symm | exact ne_kind (by walk_at "hp") (by walk_at "hp") (by intro z; cases z))
local macro_rules | `(tactic| walk_at "ni") => `(tactic| first | exact List.not_mem_nil | assumption | exact ni1 (by walk_at "ne") | exact ni2 (by walk_at "ne") (by walk_at "ne") | exact ni3 (by walk_at "ne") (by walk_at "ne") (by walk_at "ne"))
local macro_rules | `(tactic| walk_at "hp") => `(tactic| first | assumption | exact upd_same | (apply upd_getN; (assumption); (walk_at "hp")) | (apply Kp.tup; (assumption); (walk_at "hp")) | (apply Kp.get; (assumption); (walk_at "hp"); (walk_at "ni")))
local macro_rules | `(tactic| walk_at "sq") => `(tactic| first | assumption | exact SqL.of (by walk_at "hp") | (apply Kp.sqL; (assumption); (walk_at "sq"); (walk_at "ni")))
local macro_rules | `(tactic| walk_at "kp") => `(tactic| first | exact Kp.refl _ _ | assumption | exact Kp.nil (by assumption) | (refine' Kp.step (by assumption) ?_ (by first | exact fun _ z => z | exact fun _ z => nomatch z | simp); walk_at "kp"))
local macro_rules | `(tactic| walk_at "tp") => `(tactic| first | assumption | exact Tp.non | exact Tp.bl _ | exact Tp.int _ | exact Tp.str _ | (apply Tp.tup; (walk_at "hp"); (walk_at "tps")) | (apply Tp.kp; (assumption); (walk_at "tp")))
local macro_rules | `(tactic| walk_at "tps") => `(tactic| first | exact TpAll.nil | (refine TpAll.cons ?_ ?_; (walk_at "tp"); (walk_at "tps")))
local macro_rules | `(tactic| walk_at "lk") => `(tactic| first | assumption | rfl)
local macro_rules | `(tactic| walk_at "go1") => `(tactic| first | with_reducible refine x_seq ?_ | with_reducible refine x_asg ?_ | with_reducible refine x_drop ?_ | with_reducible refine x_ret ?_ | with_reducible refine x_if ?_ | with_reducible refine x_next ?_ | with_reducible refine x_par ?_ | with_reducible refine x_par3 ?_ | with_reducible refine x_two ?_ | with_reducible refine x_three ?_ | with_reducible refine x_sfld ?_ | with_reducible refine x_retN ?_ | with_reducible refine x_brk ?_ | with_reducible refine x_name ?_ | with_reducible refine x_gsub ?_ | with_reducible refine x_gcons ?_ | with_reducible refine x_gnil ?_ | ((with_reducible apply x_gtup); (walk_at "hp"); exact rfl) | ((with_reducible apply x_var); exact rfl) | with_reducible refine x_c ?_ | with_reducible refine x_op ?_ | with_reducible refine x_un ?_ | with_reducible refine x_nil ?_ | with_reducible refine x_cons ?_ | with_reducible refine x_tup ?_ | with_reducible refine x_lst ?_ | with_reducible refine x_fldE ?_ | ((with_reducible apply x_fld); (walk_at "hp"); assumption; assumption; (walk_at "lk")) | with_reducible refine x_cal ?_ | with_reducible refine x_metE ?_ | with_reducible refine x_calS ?_ | with_reducible refine x_metS ?_ | ((with_reducible apply x_met); (walk_at "hp"); (walk_at "lk")) | with_reducible refine x_newI ?_ | with_reducible refine x_cb ?_ | with_reducible refine x_bm ?_ | with_reducible refine x_bm0 ?_ | ((with_reducible apply x_bmL); (walk_at "hp")) | with_reducible refine x_sl ?_ | with_reducible refine x_nop ?_ | with_reducible refine x_part ?_ | with_reducible refine x_kP ?_ | with_reducible refine x_ife ?_ | with_reducible refine x_andV ?_ | with_reducible refine x_orV ?_ | with_reducible refine x_notV ?_ | with_reducible refine x_test ?_ | with_reducible refine x_tB ?_ | with_reducible refine x_kB ?_ | with_reducible refine x_and ?_ | with_reducible refine x_or ?_ | with_reducible refine x_not ?_ | with_reducible refine k_T ?_ | with_reducible refine k_F ?_ | with_reducible refine k_not ?_ | walk_at "go2")
local macro_rules | `(tactic| walk_at "go2") => `(tactic| first | ((with_reducible apply x_setF); (walk_at "hp"); assumption; assumption; exact Nat.le_of_ble_eq_true rfl; exact rfl; intro _ _ _) | ((with_reducible apply x_append); (walk_at "hp"); (first | omega | (simp; omega)); intro _ _ _) | ((with_reducible apply x_setL); (walk_at "hp"); exact rfl; intro _ _ _) | with_reducible refine x_addI ?_ | with_reducible refine x_cmp ?_ | with_reducible refine x_subI ?_ | with_reducible refine x_eqI ?_ | with_reducible refine x_eqS ?_ | with_reducible refine x_neI ?_ | with_reducible refine x_neS ?_ | with_reducible refine x_isNo ?_ | with_reducible refine x_notNo ?_ | ((with_reducible apply x_modI); (first | omega | decide)) | ((with_reducible apply x_divI); (first | omega | decide); (first | omega | decide)) | ((with_reducible apply x_mulI); (first | exact .inl ⟨by omega, by omega⟩ | exact .inr ⟨by decide, by decide⟩ | exact .inr ⟨by omega, by omega⟩)) | ((with_reducible apply x_powI); exact ⟨by decide, by decide, by decide⟩) | ((with_reducible apply x_ixT); (walk_at "hp"); exact rfl) | ((with_reducible apply x_ixL); (walk_at "sq"); exact rfl) | ((with_reducible apply x_lenL); (walk_at "sq")) | ((with_reducible apply x_newT); exact Nat.le_of_ble_eq_true rfl; intro _ _ _ _ _) | ((with_reducible apply x_newL); exact Nat.le_of_ble_eq_true rfl; intro _ _ _ _ _) | with_reducible refine x_for ?_ | with_reducible refine x_iL ?_ | with_reducible refine x_iR1 ?_ | with_reducible refine x_iR2 ?_ | with_reducible refine x_iE ?_ | ((with_reducible apply x_kIL); (walk_at "sq")) | ((with_reducible apply x_kE); (walk_at "sq")) | with_reducible refine x_lc ?_ | with_reducible refine x_yes ?_ | ((with_reducible apply x_wp); exact rfl))
local macro_rules | `(tactic| walk_at "go") => `(tactic| (walk_at "go1"; repeat walk_at "go1"))
local macro_rules | `(tactic| walk_at "fr") => `(tactic| first | assumption | exact Kp.free (by assumption) _ (by walk_at "fr"))
local macro_rules | `(tactic| walk_at "lk") => `(tactic| first | exact lf_p _ _ | exact lf_d _ _ | exact lf_no _ _ (by decide +kernel) (by decide +kernel))
local macro_rules | `(tactic| walk_at "go1") => `(tactic| first | with_reducible refine x_rs ?_ | ((with_reducible apply x_niS); (walk_at "sq")) | ((with_reducible apply x_inS); (walk_at "sq")))
/-! ### names -/
structure NmOk (x : Str) : Prop where
  ok : PyData.strOk x = true
  sh : x.length ≤ 20
/-- a name that is not 'good' -/
structure NmG (x : Str) : Prop where
  ok : NmOk x
  n4 : x.length ≠ 4
theorem strOk_iff {x : Str} : PyData.strOk x = true ↔ ∀ c ∈ x.cps.toList, c < 0x110000 := by
  show x.cps.all (fun c => decide (c < 0x110000)) = true ↔ _
  rw [← Array.all_toList, List.all_eq_true]
  exact ⟨fun h c hc => of_decide_eq_true (h c hc), fun h c hc => decide_eq_true (h c hc)⟩
theorem app_cps (x y : Str) : (x ++ y).cps.toList = x.cps.toList ++ y.cps.toList := by
  show (x.cps ++ y.cps).toList = _
  exact Array.toList_append ..
theorem len_cps (x : Str) : x.length = x.cps.toList.length := by
  show x.cps.size = _
  exact (Array.length_toList ..).symm
theorem len_app (x y : Str) : (x ++ y).length = x.length + y.length := by rw [len_cps, app_cps, List.length_append, ← len_cps, ← len_cps]
theorem ok_app {x y : Str} (h : PyData.strOk x = true) (h' : PyData.strOk y = true) : PyData.strOk (x ++ y) = true := by
  rw [strOk_iff] at h h' ⊢
  rw [app_cps]
  intro c hc
  rcases List.mem_append.mp hc with hc | hc
  · exact h c hc
  · exact h' c hc
/-! ### what a written small piece is -/
def pcData (nm : Str) (r : Int) : PyData := .tuple [.str nm, .tuple [.tuple [.str "s", .str "data", .int 1, .tuple [.tuple [.str "cell", .int r]]]], .tuple []]
theorem shp_piece {nm : Str} {r : Int} (h : PyData.strOk nm = true) : Shp 20 (pcData nm r) := by
  have hs : PyData.strOk "s" = true := by decide +kernel
  have hd : PyData.strOk "data" = true := by decide +kernel
  have hc : PyData.strOk "cell" = true := by decide +kernel
  refine ⟨?_, ?_⟩
  · simp only [pcData, PyData.canLay0, PyData.canLayAll0, h, hs, hd, hc, Bool.and_self]
  · simp only [pcData, PyData.depth, PyData.depthAll]
    decide
section
variable {P : Program} {w : World} {K : PySem.W.Frag} {mg : Str → Option Value} {base : Heap} {C : Addr}
def spPiece (K : PySem.W.Frag) : Sp := fun vs H Q _ => ∃ (pn : Addr) (nm : Str), vs = [.ref pn, .str nm] ∧ Pen K H pn ∧ NmOk nm ∧ ∀ c H', c.nm = nm → Kp [pn] H H' → Pen K H' pn → PcAt H' c → Q (.ref c.p) H'
theorem Pen.kp {fp : List Addr} {H H' : Hp} {pn : Addr} (k : Kp fp H H') (h : Pen K H pn) (n : pn ∉ fp) (hf : ∀ b ∈ fp, ∃ ys, H b = some (.lst ys)) : Pen K H' pn := by
  obtain ⟨sc, xs, a, c, e, s, l, p⟩ := h
  exact ⟨sc, xs, a, c, k.get e n, s.kp k hf, l, p⟩
theorem Pen.kp0 {H H' : Hp} {pn : Addr} (k : Kp [] H H') (h : Pen K H pn) : Pen K H' pn := h.kp k List.not_mem_nil fun _ z => nomatch z
abbrev s_e_piece : Stmt := top 18
theorem sc_e_piece : FnScope ["pen", "name"] ["pen", "name"] (defScope s_e_piece) := ⟨rfl, rfl, rfl, by decide +kernel, rfl, by decide +kernel, by decide +kernel⟩
theorem D_piece (D_next : Def P w K mg base CX0 "_law_next" 2 (spNext K)) (D : DefAt K mg "_law_e_piece" s_e_piece ["pen", "name"]) : Def P w K mg base CX0 "_law_e_piece" 3 (spPiece K) := by
  refine D.ok sc_e_piece (fun vs H Q E h => by obtain ⟨c, a, rfl, _⟩ := h; rfl) fun f cdv A outer s H vs Q E hr h => ⟨_, (pss_one (ps_ret (pe_tup (pa_cons (pv 1) (pa_cons (pe_tup (pa_cons (pe_tup (pa_cons pe_str (pa_cons pe_str (pa_cons pe_int (pa_cons (pe_tup (pa_cons (pe_tup (pa_cons pe_str (pa_cons (pe_def D_next (hr.mono (by decide)) pass0 (pa_cons (pv 0) (pa_cons pe_int pa_nil))) pa_nil))) pa_nil)) pa_nil))))) pa_nil)) (pa_cons (pe_tup pa_nil) pa_nil)))))), ?_⟩
  obtain ⟨pn, nm, rfl, hp, hn, k⟩ := h
  refine x_body ?_
  walk_at "go"
  refine ⟨pn, 6, rfl, hp, by decide, by decide, fun r H1 h0 h1 k1 hp1 => ?_⟩
  walk_at "go"
  rename_i p1 H2 k2 n2 e2 p2 H3 k3 n3 e3 p3 H4 k4 n4 e4 p4 H5 k5 n5 e5 p5 H6 k6 n6 e6 p6 H7 k7 n7 e7
  refine k ⟨p6, nm, pcData nm r⟩ H7 rfl (by walk_at "kp") ?_ ⟨⟨_, _, e7⟩, ?_, shp_piece hn.ok⟩
  · exact (((((hp1.kp0 k2).kp0 k3).kp0 k4).kp0 k5).kp0 k6).kp0 k7
  · walk_at "tp"
theorem letter_at {r : Int} (h0 : 0 ≤ r) (h1 : r < 26) : ∃ c, atI (("abcdefghijklmnopqrstuvwxyz" : Str).cps.toList) r = some c ∧ c < 0x110000 := by
  obtain ⟨j, rfl⟩ := Int.eq_ofNat_of_zero_le h0
  have hl : (("abcdefghijklmnopqrstuvwxyz" : Str).cps.toList).length = 26 := by decide +kernel
  have hall : ∀ c ∈ ("abcdefghijklmnopqrstuvwxyz" : Str).cps.toList, c < 0x110000 := by decide +kernel
  have hj : j < (("abcdefghijklmnopqrstuvwxyz" : Str).cps.toList).length := by rw [hl]; omega
  exact ⟨_, atI_nat (List.getElem?_eq_getElem hj), hall _ (List.getElem_mem hj)⟩
theorem ok_one {c : Nat} (h : c < 0x110000) : NmOk ⟨#[c]⟩ := ⟨by rw [strOk_iff]; intro d hd; simp at hd; rw [hd]; exact h, Nat.le_of_ble_eq_true rfl⟩
theorem NmOk.app {x y : Str} (h : NmOk x) (h' : NmOk y) (l : x.length + y.length ≤ 20) : NmOk (x ++ y) := ⟨ok_app h.ok h'.ok, by rw [len_app]; exact l⟩
def zs : Str := ⟨(List.replicate (Int.toNat 15) ("z" : Str).cps).foldl (· ++ ·) #[]⟩
theorem zs_len : zs.length = 15 := by decide +kernel
theorem zs_ok : NmOk zs := ⟨by decide +kernel, by rw [zs_len]; decide⟩
def spNms (K : PySem.W.Frag) : Sp := fun vs H Q _ => ∃ (pn : Addr), vs = [.ref pn] ∧ Pen K H pn ∧ ∀ p (xs : List Str) H', Kp [pn] H H' → Pen K H' pn → H p = none → H' p = some (.lst (xs.map V.str)) → xs.length = 6 → (∀ x ∈ xs, NmG x) → Q (.ref p) H'
abbrev s_e_names : Stmt := top 19
theorem sc_e_names : FnScope ["pen", "first"] ["pen"] (defScope s_e_names) := ⟨rfl, rfl, rfl, by decide +kernel, rfl, by decide +kernel, by decide +kernel⟩
theorem D_names (D_next : Def P w K mg base CX0 "_law_next" 2 (spNext K)) (D : DefAt K mg "_law_e_names" s_e_names ["pen"]) : Def P w K mg base CX0 "_law_e_names" 3 (spNms K) := by
  refine D.ok sc_e_names (fun vs H Q E h => by obtain ⟨a, rfl, _⟩ := h; rfl) fun f cdv A outer s H vs Q E hr h => ⟨_, (pss_cons (ps_set (i := 1) sc_e_names.nd rfl (Or.inl rfl) (pe_ix (ixK (K := K)) pe_str (pe_def D_next (hr.mono (by decide)) pass0 (pa_cons (pv 0) (pa_cons pe_int pa_nil))) (fun _ _ => rfl))) (pss_one (ps_ret (pe_lst (pa_cons (pv 1) (pa_cons (pe_op op_addA (pv 1) (pv 1)) (pa_cons (pe_op op_addA (pv 1) pe_str) (pa_cons (pe_op op_addA (pv 1) pe_str) (pa_cons (pe_op op_addA (pv 1) (pe_op op_mulS pe_str pe_int)) (pa_cons (pe_op op_addA pe_str (pv 1)) pa_nil)))))))))), ?_⟩
  obtain ⟨pn, rfl, hp, k⟩ := h
  refine x_body ?_
  walk_at "go"
  refine ⟨pn, 26, rfl, hp, by decide, by decide, fun r H1 h0 h1 k1 hp1 => ?_⟩
  obtain ⟨c, hc, hlt⟩ := letter_at h0 h1
  refine x_ixS (Nat.le_trans (show _ ≤ 26 by decide +kernel) (by decide)) hc ?_
  have o1 := ok_one hlt
  have l1 : (Str.mk #[c]).length = 1 := rfl
  have q1 : NmOk "1" := ⟨by decide +kernel, by decide +kernel⟩
  have q12 : NmOk "12" := ⟨by decide +kernel, by decide +kernel⟩
  have qz : NmOk "z" := ⟨by decide +kernel, by decide +kernel⟩
  have m1 : ("1" : Str).length = 1 := by decide +kernel
  have m12 : ("12" : Str).length = 2 := by decide +kernel
  have mz : ("z" : Str).length = 1 := by decide +kernel
  walk_at "go"
  refine x_addS (by omega) ?_
  walk_at "go"
  refine x_addS (by omega) ?_
  walk_at "go"
  refine x_addS (by omega) ?_
  walk_at "go"
  refine x_mulS (by decide) (by decide) (by omega) (by omega) ?_
  refine x_addS (by show _ + zs.length ≤ _; rw [zs_len]; omega) ?_
  walk_at "go"
  refine x_addS (by omega) ?_
  walk_at "go"
  rename_i p H2 k2 n2 e2
  refine k p [Str.mk #[c], Str.mk #[c] ++ Str.mk #[c], Str.mk #[c] ++ "1", Str.mk #[c] ++ "12", Str.mk #[c] ++ zs, "z" ++ Str.mk #[c]] H2 (by walk_at "kp") (hp1.kp0 k2) (by walk_at "fr") e2 rfl ?_
  intro x hx
  simp only [List.mem_cons, List.not_mem_nil, or_false] at hx
  rcases hx with rfl | rfl | rfl | rfl | rfl | rfl
  · exact ⟨o1, by omega⟩
  · exact ⟨o1.app o1 (by omega), by rw [len_app]; omega⟩
  · exact ⟨o1.app q1 (by omega), by rw [len_app]; omega⟩
  · exact ⟨o1.app q12 (by omega), by rw [len_app]; omega⟩
  · exact ⟨o1.app zs_ok (by rw [zs_len]; omega), by rw [len_app, zs_len]; omega⟩
  · exact ⟨qz.app o1 (by omega), by rw [len_app]; omega⟩
/-- rows: a list of pieces -/
structure Rows (H : Hp) (r : Addr) (ps : List Pc) : Prop where
  lst : H r = some (.lst (ps.map fun c => V.ref c.p))
  ok : ∀ c ∈ ps, PcAt H c
theorem Rows.kp {fp : List Addr} {H H' : Hp} {r : Addr} {ps : List Pc} (k : Kp fp H H') (h : Rows H r ps) (n : r ∉ fp) : Rows H' r ps := ⟨k.get h.lst n, fun c hc => (h.ok c hc).kp k⟩
/-- [piece[0] for piece in rows] -/
theorem lc_nms {r : Addr} {ps : List Pc} {j : Nat} {σ : L2.St} {Q : VK} {H : Hp} (R : Rows H r ps) (hz : ps.length ≤ 1000) (hj : j < σ.length)
    (hd : ∀ D H', Kp [] H H' → H D = none → H' D = some (.lst ((ps.map (·.nm)).map V.str)) → Q (.ref D) H') : kLc (Itl K r) (gName j) tYes (tOp (rIx K) (tVar j) (tC (.int 0))) [j] σ Q H := by
  refine k_lc (walk_list (K := K) (a := r) (xs := ps.map fun c => V.ref c.p)) [] (fun i ys H' => ys = ((ps.map (·.nm)).take i).map V.str) (fun _ _ _ _ _ => rfl) (fun i ys H' _ k _ => SqL.of (k.get R.lst List.not_mem_nil)) ?_ ?_
  · rintro i x ys D H1 H2 hi' hD k d l p ⟨rfl, hx⟩
    obtain ⟨c, hc, rfl⟩ := Option.map_eq_some_iff.mp (List.getElem?_map .. ▸ hx)
    obtain ⟨y1, y2, ht⟩ := ((R.ok c (List.mem_of_getElem? hc)).kp k).tup
    have hj' : j < (wipe σ [j]).length := by rw [wipe_length]; exact hj
    refine x_name (x_wp ?_ ?_)
    · show ((wipe σ [j]).set j _).set j none = wipe σ [j]
      rw [List.set_set]
      show (σ.set j none).set j none = σ.set j none
      rw [List.set_set]
    · refine x_yes (k_T (x_op (x_var (v := .ref c.p) (by rw [List.getElem?_set_self hj']) ?_)))
      walk_at "go"
      refine x_el hD hi' (by rw [List.length_map]; omega) l k d fun H6 _ _ => ?_
      rw [List.take_succ, List.getElem?_map, hc, List.map_append, ← p]
      rfl
  · intro D ys H' hD k d l p
    rw [p, List.length_map, ← List.length_map (f := fun c : Pc => c.nm), List.take_length] at d
    exact hd D H' k hD d
def spESpot : Sp := fun vs H Q _ => ∃ (r : Addr) (nm : Str) (ps : List Pc), vs = [.ref r, .str nm] ∧ Rows H r ps ∧ ps.length ≤ 1000 ∧
  (∀ (i : Nat) c H', ps[i]? = some c → c.nm = nm → Kp [] H H' → Q (.int (i : Int)) H') ∧ ((∀ c ∈ ps, c.nm ≠ nm) → ∀ H', Kp [] H H' → Q .non H')
abbrev s_e_spot : Stmt := top 20
theorem sc_e_spot : FnScope ["rows", "name", "found", "at"] ["rows", "name"] (defScope s_e_spot) := ⟨rfl, rfl, rfl, by decide +kernel, rfl, by decide +kernel, by decide +kernel⟩
theorem D_spot (Z : Blt mg) (D : DefAt K mg "_law_e_spot" s_e_spot ["rows", "name"]) : Def P w K mg base CX0 "_law_e_spot" 1 spESpot := by
  refine D.ok sc_e_spot (fun vs H Q E h => by obtain ⟨c, a, ps, rfl, _⟩ := h; rfl) fun f cdv A outer s H vs Q E hr h => ⟨_, (pss_cons (ps_setLc (i := 2) (own := [("at", 3)]) (g := gName 3) rfl sc_e_spot.nd rfl rfl (sw_true rfl rfl rfl (by decide +kernel)) (pi_range1 (by rfl) Z.range (pa_cons (pe_callB (lenK (K := K)) (by rfl) Z.len PySem.boot_len (pa_cons (pv 0) pa_nil)) pa_nil)) (blkOk_by (own := [("at", 3)]) (N := ["rows", "name", "found", "at"]) (sc := defScope s_e_spot) (by decide +kernel)) (fun _ _ _ _ _ => (pg_name (i := 3) sc_e_spot.nd rfl (Or.inl rfl))) (fun _ _ _ _ _ => (pts_one (pt_cmpR (eqK (K := K) hr.units) (pe_ix (ixK (K := K)) (pe_ix (ixK (K := K)) (pv 0) (pv 3) (fun _ _ => rfl)) pe_int (fun _ _ => rfl)) (pv 1) (nomark _)))) (fun _ _ _ _ _ => (pv 3))) (pss_one (ps_ret (pe_ifExp (pt_cmpR (neK (K := K) hr.units) (pv 2) (pe_lst pa_nil) (nomark _)) (pe_ix (ixK (K := K)) (pv 2) pe_int (fun _ _ => rfl)) pe_non)))), ?_⟩
  obtain ⟨r, nm, ps, rfl, R, hz, k1, k2⟩ := h
  have hR := R.lst
  have hlen : (ps.map fun c => V.ref c.p).length = ps.length := List.length_map ..
  refine x_body ?_
  walk_at "go"
  refine x_kR1 (by omega) (by omega) ?_
  refine k_lc (walk_range (lo := 0)) [] (fun i ys H' => ∃ js : List Nat, ys = js.map (fun j : Nat => V.int (j : Int)) ∧ (∀ j ∈ js, ∃ c, ps[j]? = some c ∧ c.nm = nm) ∧ (js = [] → ∀ (j : Nat) c, j < i → ps[j]? = some c → c.nm ≠ nm))
    (fun _ _ _ _ _ => ⟨[], rfl, (fun _ z => nomatch z), fun _ j _ z => absurd z (Nat.not_lt_zero j)⟩) (fun _ _ _ _ _ _ => trivial) ?_ ?_
  · rintro i x ys D H1 H2 hi hD k d l ⟨js, rfl, hin, hno⟩ ⟨rfl, rfl⟩
    have hil : i < ps.length := by rw [← hlen]; omega
    have hc : ps[i]? = some ps[i] := List.getElem?_eq_getElem hil
    have hR1 : H2 r = some (.lst (ps.map fun c => V.ref c.p)) := k.get hR List.not_mem_nil
    obtain ⟨y1, y2, ht⟩ := ((R.ok _ (List.getElem_mem hil)).kp k).tup
    walk_at "go"
    refine x_ixL (v := .ref ps[i].p) (SqL.of hR1) (by rw [Int.zero_add]; exact atI_nat (by rw [List.getElem?_map, hc]; rfl)) ?_
    walk_at "go"
    refine k_dec (fun en => ?_) (fun en => ?_)
    · walk_at "go"
      refine x_el hD hi (by omega) l k d fun H6 _ _ => ⟨js ++ [i], ?_, ?_, ?_⟩
      · rw [List.map_append]
        show _ ++ [V.int (0 + (i : Int))] = _
        rw [Int.zero_add]
        rfl
      · intro j hj
        rcases List.mem_append.mp hj with hj | hj
        · exact hin j hj
        · rw [List.mem_singleton.mp hj]
          exact ⟨_, hc, en⟩
      · intro z
        simp at z
    · refine x_sk hi l k d ⟨js, rfl, hin, fun z j c hj hjc => ?_⟩
      by_cases e : j = i
      · rw [e, hc] at hjc
        cases hjc
        exact en
      · exact hno z j c (by omega) hjc
  · rintro D ys H1 hD k d l ⟨js, rfl, hin, hno⟩
    walk_at "go"
    rename_i p H2 kp2 n2 e2
    have hd2 : H2 D = some (.lst (js.map fun j : Nat => V.int (j : Int))) := by walk_at "hp"
    refine x_neD (dp_list (f := fun j : Nat => V.int (j : Int)) (g := fun j : Nat => PyData.int (j : Int)) hd2 fun j _ => .int _) (.lst (SqL.of e2) .nil) ((shp_list (n := 1) fun j _ => Shp.int _).mono (by decide)) ((Shp.list (n := 1) (ds := []) fun _ z => nomatch z).mono (by decide)) ?_
    walk_at "go"
    cases js with
    | nil =>
      refine k_bT rfl ?_
      walk_at "go"
      refine k2 (fun c hc => ?_) H2 (k.trans kp2)
      obtain ⟨j, hj⟩ := List.getElem?_of_mem hc
      have hjl := (List.getElem?_eq_some_iff.mp hj).1
      exact hno rfl j c (by rw [hlen]; omega) hj
    | cons j js =>
      refine k_bF (by rw [PyData.eqv]; rfl) ?_
      walk_at "go"
      obtain ⟨c, hc, en⟩ := hin j List.mem_cons_self
      refine x_ixL (SqL.of hd2) (atI_nat (j := 0) rfl) ?_
      exact k1 j c H2 hc en (k.trans kp2)
end
end WM
set_option Elab.async false
set_option linter.all false
set_option maxRecDepth 100000
set_option maxHeartbeats 2000000
namespace WM
open PySem PySem.Spec PyProof.Rows L2
local macro_rules | `(tactic| walk_at "ne") => `(tactic| first | assumption | exact Ne.symm (by assumption) | exact ne_fresh (by assumption) (by walk_at "hp") | exact (ne_fresh (by assumption) (by walk_at "hp")).symm | exact ne_kind (by walk_at "hp") (by walk_at "hp") (by intro z; cases z))
local macro_rules | `(tactic| walk_at "ni") => `(tactic| first | exact List.not_mem_nil | assumption | exact ni1 (by walk_at "ne") | exact ni2 (by walk_at "ne") (by walk_at "ne") | exact ni3 (by walk_at "ne") (by walk_at "ne") (by walk_at "ne"))
local macro_rules | `(tactic| walk_at "hp") => `(tactic| first | assumption | exact upd_same | (apply upd_getN; (assumption); (walk_at "hp")) | (apply Kp.tup; (assumption); (walk_at "hp")) | (apply Kp.get; (assumption); (walk_at "hp"); (walk_at "ni")))
local macro_rules | `(tactic| walk_at "sq") => `(tactic| first | assumption | exact SqL.of (by walk_at "hp") | (apply Kp.sqL; (assumption); (walk_at "sq"); (walk_at "ni")))
local macro_rules | `(tactic| walk_at "kp") => `(tactic| first | exact Kp.refl _ _ | assumption | exact Kp.nil (by assumption) | (refine' Kp.step (by assumption) ?_ (by first | exact fun _ z => z | exact fun _ z => nomatch z | simp); walk_at "kp"))
local macro_rules | `(tactic| walk_at "tp") => `(tactic| first | assumption | exact Tp.non | exact Tp.bl _ | exact Tp.int _ | exact Tp.str _ | (apply Tp.tup; (walk_at "hp"); (walk_at "tps")) | (apply Tp.kp; (assumption); (walk_at "tp")))
local macro_rules | `(tactic| walk_at "tps") => `(tactic| first | exact TpAll.nil | (refine TpAll.cons ?_ ?_; (walk_at "tp"); (walk_at "tps")))
local macro_rules | `(tactic| walk_at "lk") => `(tactic| first | assumption | rfl)
local macro_rules | `(tactic| walk_at "go1") => `(tactic| first | with_reducible refine x_seq ?_ | with_reducible refine x_asg ?_ | with_reducible refine x_drop ?_ | with_reducible refine x_ret ?_ | with_reducible refine x_if ?_ | with_reducible refine x_next ?_ | with_reducible refine x_par ?_ | with_reducible refine x_par3 ?_ | with_reducible refine x_two ?_ | with_reducible refine x_three ?_ | with_reducible refine x_sfld ?_ | with_reducible refine x_retN ?_ | with_reducible refine x_brk ?_ | with_reducible refine x_name ?_ | with_reducible refine x_gsub ?_ | with_reducible refine x_gcons ?_ | with_reducible refine x_gnil ?_ | ((with_reducible apply x_gtup); (walk_at "hp"); exact rfl) | ((with_reducible apply x_var); exact rfl) | with_reducible refine x_c ?_ | with_reducible refine x_op ?_ | with_reducible refine x_un ?_ | with_reducible refine x_nil ?_ | with_reducible refine x_cons ?_ | with_reducible refine x_tup ?_ | with_reducible refine x_lst ?_ | with_reducible refine x_fldE ?_ | ((with_reducible apply x_fld); (walk_at "hp"); assumption; assumption; (walk_at "lk")) | with_reducible refine x_cal ?_ | with_reducible refine x_metE ?_ | with_reducible refine x_calS ?_ | with_reducible refine x_metS ?_ | ((with_reducible apply x_met); (walk_at "hp"); (walk_at "lk")) | with_reducible refine x_newI ?_ | with_reducible refine x_cb ?_ | with_reducible refine x_bm ?_ | with_reducible refine x_bm0 ?_ | ((with_reducible apply x_bmL); (walk_at "hp")) | with_reducible refine x_sl ?_ | with_reducible refine x_nop ?_ | with_reducible refine x_part ?_ | with_reducible refine x_kP ?_ | with_reducible refine x_ife ?_ | with_reducible refine x_andV ?_ | with_reducible refine x_orV ?_ | with_reducible refine x_notV ?_ | with_reducible refine x_test ?_ | with_reducible refine x_tB ?_ | with_reducible refine x_kB ?_ | with_reducible refine x_and ?_ | with_reducible refine x_or ?_ | with_reducible refine x_not ?_ | with_reducible refine k_T ?_ | with_reducible refine k_F ?_ | with_reducible refine k_not ?_ | walk_at "go2")
local macro_rules | `(tactic| walk_at "go2") => `(tactic| first | ((with_reducible apply x_setF); (walk_at "hp"); assumption; assumption; exact Nat.le_of_ble_eq_true rfl; exact rfl; intro _ _ _) | ((with_reducible apply x_append); (walk_at "hp"); (first | omega | (simp; omega)); intro _ _ _) | ((with_reducible apply x_setL); (walk_at "hp"); exact rfl; intro _ _ _) | with_reducible refine x_addI ?_ | with_reducible refine x_cmp ?_ | with_reducible refine x_subI ?_ | with_reducible refine x_eqI ?_ | with_reducible refine x_eqS ?_ | with_reducible refine x_neI ?_ | with_reducible refine x_neS ?_ | with_reducible refine x_isNo ?_ | with_reducible refine x_notNo ?_ | ((with_reducible apply x_modI); (first | omega | decide)) | ((with_reducible apply x_divI); (first | omega | decide); (first | omega | decide)) | ((with_reducible apply x_mulI); (first | exact .inl ⟨by omega, by omega⟩ | exact .inr ⟨by decide, by decide⟩ | exact .inr ⟨by omega, by omega⟩)) | ((with_reducible apply x_powI); exact ⟨by decide, by decide, by decide⟩) | ((with_reducible apply x_ixT); (walk_at "hp"); exact rfl) | ((with_reducible apply x_ixL); (walk_at "sq"); exact rfl) | ((with_reducible apply x_lenL); (walk_at "sq")) | ((with_reducible apply x_newT); exact Nat.le_of_ble_eq_true rfl; intro _ _ _ _ _) | ((with_reducible apply x_newL); exact Nat.le_of_ble_eq_true rfl; intro _ _ _ _ _) | with_reducible refine x_for ?_ | with_reducible refine x_iL ?_ | with_reducible refine x_iR1 ?_ | with_reducible refine x_iR2 ?_ | with_reducible refine x_iE ?_ | ((with_reducible apply x_kIL); (walk_at "sq")) | ((with_reducible apply x_kE); (walk_at "sq")) | with_reducible refine x_lc ?_ | with_reducible refine x_yes ?_ | ((with_reducible apply x_wp); exact rfl))
local macro_rules | `(tactic| walk_at "go") => `(tactic| (walk_at "go1"; repeat walk_at "go1"))
local macro_rules | `(tactic| walk_at "fr") => `(tactic| first | assumption | exact Kp.free (by assumption) _ (by walk_at "fr"))
local macro_rules | `(tactic| walk_at "lk") => `(tactic| first | exact lf_p _ _ | exact lf_d _ _ | exact lf_no _ _ (by decide +kernel) (by decide +kernel))
local macro_rules | `(tactic| walk_at "go1") => `(tactic| first | with_reducible refine x_rs ?_ | ((with_reducible apply x_niS); (walk_at "sq")) | ((with_reducible apply x_inS); (walk_at "sq")))
/-! ### deeds -/
inductive Dd where
  | put (c : Pc) | exch (c : Pc) | take (nm : Str)
def Dd.w : Dd → Str
  | .put _ => "put" | .exch _ => "exchange" | .take _ => "take"
def Dd.v : Dd → V
  | .put c => .ref c.p | .exch c => .ref c.p | .take nm => .str nm
def Dd.nm : Dd → Str
  | .put c => c.nm | .exch c => c.nm | .take nm => nm
def Dd.pcs : Dd → List Pc
  | .put c => [c] | .exch c => [c] | .take _ => []
structure DdAt (H : Hp) (a : Addr) (d : Dd) : Prop where
  tup : H a = some (.tup [.str d.w, d.v])
  pc : ∀ c ∈ d.pcs, PcAt H c
theorem DdAt.kp {fp : List Addr} {H H' : Hp} {a : Addr} {d : Dd} (k : Kp fp H H') (h : DdAt H a d) : DdAt H' a d := ⟨k.tup h.tup, fun c hc => (h.pc c hc).kp k⟩
def Fit (ps : List Pc) : Dd → Prop
  | .put c => ∀ o ∈ ps, o.nm ≠ c.nm
  | .exch c => ∃ o ∈ ps, o.nm = c.nm
  | .take nm => ∃ o ∈ ps, o.nm = nm
inductive Rf where
  | many | twin | piece
def Rf.f : Rf → Str
  | .many => "most" | .twin => "name" | .piece => "name"
def Rf.w : Rf → Str
  | .many => "many" | .twin => "twin" | .piece => "piece"
def Rf.v (d : Dd) : Rf → V
  | .many => .int 30 | .twin => .str d.nm | .piece => .str d.nm
def Rf.C (CM CT CN : Addr) : Rf → Addr
  | .many => CM | .twin => CT | .piece => CN
def Refs (ps : List Pc) : Dd → Rf → Prop
  | .put _, .many => 30 ≤ ps.length
  | .put c, .twin => ps.length < 30 ∧ c.nm ∈ ps.map (·.nm)
  | .exch c, .piece => ∀ o ∈ ps, o.nm ≠ c.nm
  | .take nm, .piece => ∀ o ∈ ps, o.nm ≠ nm
  | _, _ => False
def Step (ps : List Pc) : Dd → List Pc → Dn → Prop
  | .put c, qs, e => ps.length < 30 ∧ c.nm ∉ ps.map (·.nm) ∧ qs = ps ++ [c] ∧ e.k = .put ∧ e.at_ = ps.length ∧ e.pc = none
  | .exch c, qs, e => ∃ (i : Nat) (o : Pc), ps[i]? = some o ∧ o.nm = c.nm ∧ qs = ps.set i c ∧ e.k = .exch ∧ e.at_ = i ∧ e.pc = some o
  | .take nm, qs, e => ∃ (i : Nat) (o : Pc), ps[i]? = some o ∧ o.nm = nm ∧ qs = ps.eraseIdx i ∧ e.k = .take ∧ e.at_ = i ∧ e.pc = some o
def After (ps : List Pc) : Dd → List Pc → Prop
  | .put c, qs => qs = ps ++ [c]
  | .exch c, qs => ∃ (i : Nat) (o : Pc), ps[i]? = some o ∧ o.nm = c.nm ∧ qs = ps.set i c
  | .take nm, qs => ∃ (i : Nat) (o : Pc), ps[i]? = some o ∧ o.nm = nm ∧ qs = ps.eraseIdx i
section
variable {P : Program} {w : World} {K : PySem.W.Frag} {mg : Str → Option Value} {base : Heap} {C : Addr}
theorem Pen.neq {H : Hp} {pn b : Addr} {xs : List V} (h : Pen K H pn) (e : H b = some (.lst xs)) (hx : ∀ x ∈ xs, ∀ z, x ≠ V.int z) : b ≠ pn := by
  obtain ⟨sc, ns, a, c, e', _⟩ := h
  rintro rfl
  rw [e] at e'
  cases e'
  exact hx (.int a) (by simp) a rfl
theorem Pen.neP {α : Type} {H : Hp} {pn b : Addr} {l : List α} {f : α → Addr} (h : Pen K H pn) (e : H b = some (.lst (l.map fun c => V.ref (f c)))) : b ≠ pn := h.neq e fun x hx z => by
  obtain ⟨c, _, rfl⟩ := List.mem_map.mp hx
  exact fun q => nomatch q
theorem Pen.neS {H : Hp} {pn b : Addr} {l : List Str} (h : Pen K H pn) (e : H b = some (.lst (l.map V.str))) : b ≠ pn := h.neq e fun x hx z => by
  obtain ⟨c, _, rfl⟩ := List.mem_map.mp hx
  exact fun q => nomatch q
def spDeed (K : PySem.W.Frag) : Sp := fun vs H Q _ => ∃ (pn nl r : Addr) (ns : List Str) (ps : List Pc), vs = [.ref pn, .ref nl, .ref r] ∧ Pen K H pn ∧ H nl = some (.lst (ns.map V.str)) ∧ 0 < ns.length ∧ ns.length ≤ 1000 ∧ (∀ x ∈ ns, NmOk x) ∧
  Rows H r ps ∧ ps.length ≤ 1000 ∧ ∀ a d H', Kp [pn] H H' → Pen K H' pn → DdAt H' a d → Fit ps d → d.nm ∈ ns → Q (.ref a) H'
abbrev s_e_deed : Stmt := top 21
theorem sc_e_deed : FnScope ["pen", "names", "rows", "name"] ["pen", "names", "rows"] (defScope s_e_deed) := ⟨rfl, rfl, rfl, by decide +kernel, rfl, by decide +kernel, by decide +kernel⟩
theorem D_deed (Z : Blt mg) (D_next : Def P w K mg base CX0 "_law_next" 2 (spNext K)) (D_e_piece : Def P w K mg base CX0 "_law_e_piece" 3 (spPiece K)) (D_e_spot : Def P w K mg base CX0 "_law_e_spot" 1 spESpot) (D : DefAt K mg "_law_e_deed" s_e_deed ["pen", "names", "rows"]) :
    Def P w K mg base CX0 "_law_e_deed" 4 (spDeed K) := by
  refine D.ok sc_e_deed (fun vs H Q E h => by obtain ⟨c, a, b, ns, ps, rfl, _⟩ := h; rfl) fun f cdv A outer s H vs Q E hr h => ⟨_, (pss_cons (ps_set (i := 3) sc_e_deed.nd rfl (Or.inl rfl) (pe_ix (ixK (K := K)) (pv 1) (pe_def D_next (hr.mono (by decide)) pass0 (pa_cons (pv 0) (pa_cons (pe_callB (lenK (K := K)) (by rfl) Z.len PySem.boot_len (pa_cons (pv 1) pa_nil)) pa_nil))) (fun _ _ => rfl))) (pss_cons (ps_if (pt_cmpR op_isNo (pe_def D_e_spot (hr.mono (by decide)) pass0 (pa_cons (pv 2) (pa_cons (pv 3) pa_nil))) pe_non (nomark _)) (pss_one (ps_ret (pe_tup (pa_cons pe_str (pa_cons (pe_def D_e_piece (hr.mono (by decide)) pass0 (pa_cons (pv 0) (pa_cons (pv 3) pa_nil))) pa_nil))))) pss_nil) (pss_cons (ps_if (pt_cmpR (eqK (K := K) hr.units) (pe_def D_next (hr.mono (by decide)) pass0 (pa_cons (pv 0) (pa_cons pe_int pa_nil))) pe_int (nomark _)) (pss_one (ps_ret (pe_tup (pa_cons pe_str (pa_cons (pe_def D_e_piece (hr.mono (by decide)) pass0 (pa_cons (pv 0) (pa_cons (pv 3) pa_nil))) pa_nil))))) pss_nil) (pss_one (ps_ret (pe_tup (pa_cons pe_str (pa_cons (pv 3) pa_nil)))))))), ?_⟩
  obtain ⟨pn, nl, r, ns, ps, rfl, hp, hn, n0, n1, nok, R, hz, k⟩ := h
  refine x_body ?_
  have hlen : (ns.map V.str).length = ns.length := List.length_map ..
  have ne1 := hp.neS hn
  have ne2 := hp.neP R.lst
  walk_at "go"
  refine ⟨pn, _, rfl, hp, by omega, by omega, fun z H1 h0 h1 k1 hp1 => ?_⟩
  obtain ⟨j, rfl⟩ := Int.eq_ofNat_of_zero_le h0
  have hj : j < ns.length := by omega
  have hnj := nok _ (List.getElem_mem hj)
  refine x_ixL (v := .str ns[j]) (SqL.of (k1.get hn (ni1 ne1))) (atI_nat (by rw [List.getElem?_map, List.getElem?_eq_getElem hj]; rfl)) ?_
  walk_at "go"
  have R1 : Rows H1 r ps := R.kp k1 (ni1 ne2)
  refine ⟨r, ns[j], ps, rfl, R1, hz, fun i c H2 hc en k2 => ?_, fun hno H2 k2 => ?_⟩
  · have hp2 := hp1.kp0 k2
    walk_at "go"
    refine k_no (fun z => nomatch z) ?_
    walk_at "go"
    refine ⟨pn, 2, rfl, hp2, by decide, by decide, fun z H3 h0 h1 k3 hp3 => ?_⟩
    walk_at "go"
    have hm : ∃ o ∈ ps, o.nm = ns[j] := ⟨c, List.mem_of_getElem? hc, en⟩
    refine k_dec (fun _ => ?_) (fun _ => ?_)
    · walk_at "go"
      refine ⟨pn, ns[j], rfl, hp3, hnj, fun c H4 ec k4 hp4 hc4 => ?_⟩
      walk_at "go"
      rename_i T H5 k5 n5 e5
      exact k T (.exch c) H5 (by walk_at "kp") (hp4.kp0 k5) ⟨e5, fun x hx => by rw [List.mem_singleton.mp hx]; exact hc4.kp k5⟩ (by show ∃ o ∈ ps, o.nm = c.nm; rw [ec]; exact hm) (by show c.nm ∈ ns; rw [ec]; exact List.getElem_mem hj)
    · walk_at "go"
      rename_i T H5 k5 n5 e5
      exact k T (.take ns[j]) H5 (by walk_at "kp") (hp3.kp0 k5) ⟨e5, fun x hx => nomatch hx⟩ hm (List.getElem_mem hj)
  · have hp2 := hp1.kp0 k2
    walk_at "go"
    refine k_is rfl ?_
    walk_at "go"
    refine ⟨pn, ns[j], rfl, hp2, hnj, fun c H4 ec k4 hp4 hc4 => ?_⟩
    walk_at "go"
    rename_i T H5 k5 n5 e5
    exact k T (.put c) H5 (by walk_at "kp") (hp4.kp0 k5) ⟨e5, fun x hx => by rw [List.mem_singleton.mp hx]; exact hc4.kp k5⟩ (by show ∀ o ∈ ps, o.nm ≠ c.nm; rw [ec]; exact hno) (by show c.nm ∈ ns; rw [ec]; exact List.getElem_mem hj)
theorem cutV_to {xs : List V} {i : Nat} (h : i ≤ xs.length) : cutV xs none (some (i : Int)) = xs.take i := by
  have e : HT.sIx xs.length xs.length (some (i : Int)) = i := by rw [HT.sIx_nat]; exact Nat.min_eq_left h
  have e0 : HT.sIx xs.length 0 none = 0 := by simp only [HT.sIx]
  show (xs.drop (HT.sIx xs.length 0 none)).take (HT.sIx xs.length xs.length (some (i : Int)) - HT.sIx xs.length 0 none) = xs.take i
  rw [e, e0]
  rfl
theorem cutV_from {xs : List V} {i : Nat} (h : i ≤ xs.length) : cutV xs (some (i : Int)) none = xs.drop i := by
  have e : HT.sIx xs.length 0 (some (i : Int)) = i := by rw [HT.sIx_nat]; exact Nat.min_eq_left h
  have e0 : HT.sIx xs.length xs.length none = xs.length := by simp only [HT.sIx]
  show (xs.drop (HT.sIx xs.length 0 (some (i : Int)))).take (HT.sIx xs.length xs.length none - HT.sIx xs.length 0 (some (i : Int))) = xs.drop i
  rw [e, e0]
  exact List.take_of_length_le (by rw [List.length_drop]; exact Nat.le_refl _)
theorem set_cut {α : Type} : ∀ (l : List α) (i : Nat) (a : α), i < l.length → l.set i a = l.take i ++ [a] ++ l.drop (i + 1)
  | [], i, a, h => absurd h (Nat.not_lt_zero _)
  | x :: r, 0, a, _ => rfl
  | x :: r, i + 1, a, h => by
    have ih := set_cut r i a (Nat.lt_of_succ_lt_succ h)
    simpa using ih
theorem erase_cut {α : Type} : ∀ (l : List α) (i : Nat), l.eraseIdx i = l.take i ++ l.drop (i + 1)
  | [], i => by simp
  | x :: r, 0 => rfl
  | x :: r, i + 1 => by
    have ih := erase_cut r i
    simpa using ih
def spAfter : Sp := fun vs H Q _ => ∃ (r a : Addr) (ps : List Pc) (d : Dd), vs = [.ref r, .ref a] ∧ Rows H r ps ∧ DdAt H a d ∧ (∀ c, d ≠ .put c → Fit ps d) ∧ ps.length ≤ 1000 ∧ ∀ p qs H', Kp [] H H' → H p = none → Rows H' p qs → After ps d qs → Q (.ref p) H'
theorem Rows.of {H H' : Hp} {p : Addr} {ps qs : List Pc} (e : H' p = some (.lst (qs.map fun c => V.ref c.p))) (h : ∀ c ∈ ps, PcAt H' c) (s : ∀ c ∈ qs, c ∈ ps) : Rows H' p qs := ⟨e, fun c hc => h c (s c hc)⟩
abbrev s_e_after : Stmt := top 22
theorem sc_e_after : FnScope ["rows", "deed", "at"] ["rows", "deed"] (defScope s_e_after) := ⟨rfl, rfl, rfl, by decide +kernel, rfl, by decide +kernel, by decide +kernel⟩
theorem D_after (D_e_spot : Def P w K mg base CX0 "_law_e_spot" 1 spESpot) (D : DefAt K mg "_law_e_after" s_e_after ["rows", "deed"]) : Def P w K mg base CX0 "_law_e_after" 2 spAfter := by
  refine D.ok sc_e_after (fun vs H Q E h => by obtain ⟨c, a, ps, d, rfl, _⟩ := h; rfl) fun f cdv A outer s H vs Q E hr h => ⟨_, (pss_cons (ps_if (pt_cmpR (eqK (K := K) hr.units) (pe_ix (ixK (K := K)) (pv 1) pe_int (fun _ _ => rfl)) pe_str (nomark _)) (pss_one (ps_ret (pe_op op_addA (pv 0) (pe_lst (pa_cons (pe_ix (ixK (K := K)) (pv 1) pe_int (fun _ _ => rfl)) pa_nil))))) pss_nil) (pss_cons (ps_if (pt_cmpR (eqK (K := K) hr.units) (pe_ix (ixK (K := K)) (pv 1) pe_int (fun _ _ => rfl)) pe_str (nomark _)) (pss_cons (ps_set (i := 2) sc_e_after.nd rfl (Or.inl rfl) (pe_def D_e_spot (hr.mono (by decide)) pass0 (pa_cons (pv 0) (pa_cons (pe_ix (ixK (K := K)) (pe_ix (ixK (K := K)) (pv 1) pe_int (fun _ _ => rfl)) pe_int (fun _ _ => rfl)) pa_nil)))) (pss_one (ps_ret (pe_op op_addA (pe_op op_addA (pe_slice (slK (K := K)) (pv 0) po_none (po_some (pv 2))) (pe_lst (pa_cons (pe_ix (ixK (K := K)) (pv 1) pe_int (fun _ _ => rfl)) pa_nil))) (pe_slice (slK (K := K)) (pv 0) (po_some (pe_op op_addA (pv 2) pe_int)) po_none))))) pss_nil) (pss_cons (ps_set (i := 2) sc_e_after.nd rfl (Or.inl rfl) (pe_def D_e_spot (hr.mono (by decide)) pass0 (pa_cons (pv 0) (pa_cons (pe_ix (ixK (K := K)) (pv 1) pe_int (fun _ _ => rfl)) pa_nil)))) (pss_one (ps_ret (pe_op op_addA (pe_slice (slK (K := K)) (pv 0) po_none (po_some (pv 2))) (pe_slice (slK (K := K)) (pv 0) (po_some (pe_op op_addA (pv 2) pe_int)) po_none))))))), ?_⟩
  obtain ⟨r, a, ps, d, rfl, R, hd, fit, hz, k⟩ := h
  have hR := R.lst
  have hlen : (ps.map fun c => V.ref c.p).length = ps.length := List.length_map ..
  refine x_body ?_
  have ht := hd.tup
  walk_at "go"
  cases d with
  | put c =>
    refine k_is rfl ?_
    walk_at "go"
    rename_i T H1 k1 n1 e1
    refine x_addL (k1.get hR List.not_mem_nil) e1 (by simp only [List.length_singleton]; omega) fun p H2 k2 n2 e2 => ?_
    have kk : Kp [] H H2 := k1.trans k2
    refine k p (ps ++ [c]) H2 kk (k1.free _ n2) ⟨by rw [e2, List.map_append]; rfl, fun x hx => ?_⟩ rfl
    rcases List.mem_append.mp hx with hx | hx
    · exact (R.ok x hx).kp kk
    · rw [List.mem_singleton.mp hx]
      exact (hd.pc c List.mem_cons_self).kp kk
  | exch c =>
    refine k_no (show ¬ ("exchange" : Str) = "put" by decide +kernel) ?_
    walk_at "go"
    refine k_is rfl ?_
    have hc := hd.pc c List.mem_cons_self
    obtain ⟨y1, y2, hct⟩ := hc.tup
    have ht' : H a = some (.tup [.str "exchange", .ref c.p]) := ht
    obtain ⟨o0, ho0, eo0⟩ := fit ⟨0, "", .none⟩ (fun z => nomatch z)
    walk_at "go"
    refine ⟨r, c.nm, ps, rfl, R, hz, fun i o H1 ho en k1 => ?_, fun hno => absurd eo0 (hno o0 ho0)⟩
    have hil : i < ps.length := (List.getElem?_eq_some_iff.mp ho).1
    walk_at "go"
    refine x_slL (k1.get hR List.not_mem_nil) fun p2 H2 k2 n2 e2 => ?_
    walk_at "go"
    rename_i p3 H3 k3 n3 e3
    refine x_addL (k3.get e2 List.not_mem_nil) e3 (by rw [cutV_to (by omega), List.length_take]; simp only [List.length_singleton]; omega) fun p4 H4 k4 n4 e4 => ?_
    walk_at "go"
    refine x_slL (xs := ps.map fun c => V.ref c.p) (by walk_at "hp") fun p5 H5 k5 n5 e5 => ?_
    have ei : ((i : Int) + 1) = ((i + 1 : Nat) : Int) := by omega
    rw [ei, cutV_from (by omega)] at e5
    rw [cutV_to (by omega)] at e4
    refine x_addL (k5.get e4 List.not_mem_nil) e5 (by rw [List.length_append, List.length_take, List.length_drop]; simp only [List.length_singleton]; omega) fun p6 H6 k6 n6 e6 => ?_
    have kk : Kp [] H H6 := (((k1.trans k2).trans k3).trans k4).trans (k5.trans k6)
    have nn : H p6 = none := ((((k1.trans k2).trans k3).trans k4).trans k5).free _ n6
    refine k p6 (ps.set i c) H6 kk nn ⟨?_, fun x hx => ?_⟩ ⟨i, o, ho, en, rfl⟩
    · rw [e6, set_cut ps i c hil, List.map_append, List.map_append, List.map_take, List.map_drop]
      rfl
    · rcases List.mem_or_eq_of_mem_set hx with hx | hx
      · exact (R.ok x hx).kp kk
      · rw [hx]
        exact hc.kp kk
  | take nm =>
    refine k_no (show ¬ ("take" : Str) = "put" by decide +kernel) ?_
    walk_at "go"
    refine k_no (show ¬ ("take" : Str) = "exchange" by decide +kernel) ?_
    obtain ⟨o0, ho0, eo0⟩ := fit ⟨0, "", .none⟩ (fun z => nomatch z)
    walk_at "go"
    refine ⟨r, nm, ps, rfl, R, hz, fun i o H1 ho en k1 => ?_, fun hno => absurd eo0 (hno o0 ho0)⟩
    have hil : i < ps.length := (List.getElem?_eq_some_iff.mp ho).1
    walk_at "go"
    refine x_slL (k1.get hR List.not_mem_nil) fun p2 H2 k2 n2 e2 => ?_
    walk_at "go"
    refine x_slL (xs := ps.map fun c => V.ref c.p) (by walk_at "hp") fun p5 H5 k5 n5 e5 => ?_
    have ei : ((i : Int) + 1) = ((i + 1 : Nat) : Int) := by omega
    rw [ei, cutV_from (by omega)] at e5
    rw [cutV_to (by omega)] at e2
    refine x_addL (k5.get e2 List.not_mem_nil) e5 (by rw [List.length_take, List.length_drop]; omega) fun p6 H6 k6 n6 e6 => ?_
    have kk : Kp [] H H6 := (k1.trans k2).trans (k5.trans k6)
    have nn : H p6 = none := ((k1.trans k2).trans k5).free _ n6
    refine k p6 (ps.eraseIdx i) H6 kk nn ⟨?_, fun x hx => ?_⟩ ⟨i, o, ho, en, rfl⟩
    · rw [e6, erase_cut ps i, List.map_append, List.map_take, List.map_drop]
    · exact (R.ok x (List.mem_of_mem_eraseIdx hx)).kp kk
def spDo (C CM CT CN : Addr) : Sp := fun vs H Q E => ∃ (l pl dl a : Addr) (d : Dd) (ps : List Pc) (ds : List Dn), vs = [.ref l, .ref a] ∧ Lk C H l pl dl ps ds ∧ DdAt H a d ∧ ps.length ≤ 1000 ∧ ds.length ≤ 50000 ∧
  (∀ rf, Refs ps d rf → Refused E H (rf.C CM CT CN) rf.f (rf.v d)) ∧ (∀ qs e H', Step ps d qs e → Kp [pl, dl] H H' → Lk C H' l pl dl qs (ds ++ [e]) → Q .non H')
abbrev s_e_do : Stmt := top 23
theorem sc_e_do : FnScope ["linker", "deed"] ["linker", "deed"] (defScope s_e_do) := ⟨rfl, rfl, rfl, by decide +kernel, rfl, by decide +kernel, by decide +kernel⟩
theorem D_do {CM CT CN : Addr} (cl : Cls K C) (M_put : Met P w K mg base (L2.CX P w) C "put" 3 (spPut C CM CT)) (M_exchange : Met P w K mg base (L2.CX P w) C "exchange" 4 (spExch C CN)) (M_take_out : Met P w K mg base (L2.CX P w) C "take_out" 4 (spTake C CN))
    (D : DefAt K mg "_law_e_do" s_e_do ["linker", "deed"]) : Def P w K mg base (L2.CX P w) "_law_e_do" 5 (spDo C CM CT CN) := by
  refine D.okX sc_e_do (fun vs H Q E h => by obtain ⟨l, pl, dl, c, d, ps, ds, rfl, _⟩ := h; rfl) fun f cdv A outer s H vs Q E hr h => ⟨_, (pss_cons (ps_if (pt_cmpR (eqK (K := K) hr.units) (pe_ix (ixK (K := K)) (pv 1) pe_int (fun _ _ => rfl)) pe_str (nomark _)) (pss_one (ps_ret (pe_met M_put cl (hr.mono (by decide)) (passes_call (takes_of rfl rfl rfl rfl) fun _ _ _ _ h => h) (pv 0) (pa_cons (pe_ix (ixK (K := K)) (pv 1) pe_int (fun _ _ => rfl)) pa_nil)))) pss_nil) (pss_cons (ps_if (pt_cmpR (eqK (K := K) hr.units) (pe_ix (ixK (K := K)) (pv 1) pe_int (fun _ _ => rfl)) pe_str (nomark _)) (pss_one (ps_ret (pe_met M_exchange cl (hr.mono (by decide)) (passes_call (takes_of rfl rfl rfl rfl) fun _ _ _ _ h => h) (pv 0) (pa_cons (pe_ix (ixK (K := K)) (pv 1) pe_int (fun _ _ => rfl)) pa_nil)))) pss_nil) (pss_one (ps_ret (pe_met M_take_out cl (hr.mono (by decide)) (passes_call (takes_of rfl rfl rfl rfl) fun _ _ _ _ h => h) (pv 0) (pa_cons (pe_ix (ixK (K := K)) (pv 1) pe_int (fun _ _ => rfl)) pa_nil)))))), ?_⟩
  obtain ⟨l, pl, dl, a, d, ps, ds, rfl, L, hd, hz, hz2, kE, kk⟩ := h
  refine x_body ?_
  obtain ⟨⟨dx, hi⟩, _⟩ := id L
  have ht := hd.tup
  walk_at "go"
  cases d with
  | put c =>
    refine k_is rfl ?_
    walk_at "go"
    refine ⟨l, pl, dl, c, ps, ds, rfl, L, hd.pc c List.mem_cons_self, hz, hz2, fun h => kE .many h, fun h1 h2 => kE .twin ⟨h1, h2⟩, fun h1 h2 b H' k' L' => kk _ _ H' ⟨h1, h2, rfl, rfl, rfl, rfl⟩ k' L'⟩
  | exch c =>
    refine k_no (show ¬ ("exchange" : Str) = "put" by decide +kernel) ?_
    walk_at "go"
    refine k_is rfl ?_
    walk_at "go"
    refine ⟨l, pl, dl, c, ps, ds, rfl, L, hd.pc c List.mem_cons_self, hz, hz2, fun i o b H' ho en k' L' => kk _ _ H' ⟨i, o, ho, en, rfl, rfl, rfl, rfl⟩ k' L', fun h => kE .piece h⟩
  | take nm =>
    refine k_no (show ¬ ("take" : Str) = "put" by decide +kernel) ?_
    walk_at "go"
    refine k_no (show ¬ ("take" : Str) = "exchange" by decide +kernel) ?_
    walk_at "go"
    refine ⟨l, pl, dl, nm, ps, ds, rfl, L, hz, hz2, fun i o b H' ho en k' L' => kk _ _ H' ⟨i, o, ho, en, rfl, rfl, rfl, rfl⟩ k' L', fun h => kE .piece h⟩
end
end WM
set_option Elab.async false
set_option linter.all false
set_option maxRecDepth 100000
set_option maxHeartbeats 2000000
namespace WM
open PySem PySem.Spec PyProof.Rows L2
local macro_rules | `(tactic| walk_at "ne") => `(tactic| first | assumption | exact Ne.symm (by assumption) | exact ne_fresh (by assumption) (by walk_at "hp") | exact (ne_fresh (by assumption) (by walk_at "hp")).symm | exact ne_kind (by walk_at "hp") (by walk_at "hp") (by intro z; cases z))
local macro_rules | `(tactic| walk_at "ni") => `(tactic| first | exact List.not_mem_nil | assumption | exact ni1 (by walk_at "ne") | exact ni2 (by walk_at "ne") (by walk_at "ne") | exact ni3 (by walk_at "ne") (by walk_at "ne") (by walk_at "ne"))
local macro_rules | `(tactic| walk_at "hp") => `(tactic| first | assumption | exact upd_same | (apply upd_getN; (assumption); (walk_at "hp")) | (apply Kp.tup; (assumption); (walk_at "hp")) | (apply Kp.get; (assumption); (walk_at "hp"); (walk_at "ni")))
local macro_rules | `(tactic| walk_at "sq") => `(tactic| first | assumption | exact SqL.of (by walk_at "hp") | (apply Kp.sqL; (assumption); (walk_at "sq"); (walk_at "ni")))
local macro_rules | `(tactic| walk_at "kp") => `(tactic| first | exact Kp.refl _ _ | assumption | exact Kp.nil (by assumption) | (refine' Kp.step (by assumption) ?_ (by first | exact fun _ z => z | exact fun _ z => nomatch z | simp); walk_at "kp"))
local macro_rules | `(tactic| walk_at "tp") => `(tactic| first | assumption | exact Tp.non | exact Tp.bl _ | exact Tp.int _ | exact Tp.str _ | (apply Tp.tup; (walk_at "hp"); (walk_at "tps")) | (apply Tp.kp; (assumption); (walk_at "tp")))
local macro_rules | `(tactic| walk_at "tps") => `(tactic| first | exact TpAll.nil | (refine TpAll.cons ?_ ?_; (walk_at "tp"); (walk_at "tps")))
local macro_rules | `(tactic| walk_at "lk") => `(tactic| first | assumption | rfl)
local macro_rules | `(tactic| walk_at "go1") => `(tactic| first | with_reducible refine x_seq ?_ | with_reducible refine x_asg ?_ | with_reducible refine x_drop ?_ | with_reducible refine x_ret ?_ | with_reducible refine x_if ?_ | with_reducible refine x_next ?_ | with_reducible refine x_par ?_ | with_reducible refine x_par3 ?_ | with_reducible refine x_two ?_ | with_reducible refine x_three ?_ | with_reducible refine x_sfld ?_ | with_reducible refine x_retN ?_ | with_reducible refine x_brk ?_ | with_reducible refine x_name ?_ | with_reducible refine x_gsub ?_ | with_reducible refine x_gcons ?_ | with_reducible refine x_gnil ?_ | ((with_reducible apply x_gtup); (walk_at "hp"); exact rfl) | ((with_reducible apply x_var); exact rfl) | with_reducible refine x_c ?_ | with_reducible refine x_op ?_ | with_reducible refine x_un ?_ | with_reducible refine x_nil ?_ | with_reducible refine x_cons ?_ | with_reducible refine x_tup ?_ | with_reducible refine x_lst ?_ | with_reducible refine x_fldE ?_ | ((with_reducible apply x_fld); (walk_at "hp"); assumption; assumption; (walk_at "lk")) | with_reducible refine x_cal ?_ | with_reducible refine x_metE ?_ | with_reducible refine x_calS ?_ | with_reducible refine x_metS ?_ | ((with_reducible apply x_met); (walk_at "hp"); (walk_at "lk")) | with_reducible refine x_newI ?_ | with_reducible refine x_cb ?_ | with_reducible refine x_bm ?_ | with_reducible refine x_bm0 ?_ | ((with_reducible apply x_bmL); (walk_at "hp")) | with_reducible refine x_sl ?_ | with_reducible refine x_nop ?_ | with_reducible refine x_part ?_ | with_reducible refine x_kP ?_ | with_reducible refine x_ife ?_ | with_reducible refine x_andV ?_ | with_reducible refine x_orV ?_ | with_reducible refine x_notV ?_ | with_reducible refine x_test ?_ | with_reducible refine x_tB ?_ | with_reducible refine x_kB ?_ | with_reducible refine x_and ?_ | with_reducible refine x_or ?_ | with_reducible refine x_not ?_ | with_reducible refine k_T ?_ | with_reducible refine k_F ?_ | with_reducible refine k_not ?_ | walk_at "go2")
local macro_rules | `(tactic| walk_at "go2") => `(tactic| first | ((with_reducible apply x_setF); (walk_at "hp"); assumption; assumption; exact Nat.le_of_ble_eq_true rfl; exact rfl; intro _ _ _) | ((with_reducible apply x_append); (walk_at "hp"); (first | omega | (simp; omega)); intro _ _ _) | ((with_reducible apply x_setL); (walk_at "hp"); exact rfl; intro _ _ _) | with_reducible refine x_addI ?_ | with_reducible refine x_cmp ?_ | with_reducible refine x_subI ?_ | with_reducible refine x_eqI ?_ | with_reducible refine x_eqS ?_ | with_reducible refine x_neI ?_ | with_reducible refine x_neS ?_ | with_reducible refine x_isNo ?_ | with_reducible refine x_notNo ?_ | ((with_reducible apply x_modI); (first | omega | decide)) | ((with_reducible apply x_divI); (first | omega | decide); (first | omega | decide)) | ((with_reducible apply x_mulI); (first | exact .inl ⟨by omega, by omega⟩ | exact .inr ⟨by decide, by decide⟩ | exact .inr ⟨by omega, by omega⟩)) | ((with_reducible apply x_powI); exact ⟨by decide, by decide, by decide⟩) | ((with_reducible apply x_ixT); (walk_at "hp"); exact rfl) | ((with_reducible apply x_ixL); (walk_at "sq"); exact rfl) | ((with_reducible apply x_lenL); (walk_at "sq")) | ((with_reducible apply x_newT); exact Nat.le_of_ble_eq_true rfl; intro _ _ _ _ _) | ((with_reducible apply x_newL); exact Nat.le_of_ble_eq_true rfl; intro _ _ _ _ _) | with_reducible refine x_for ?_ | with_reducible refine x_iL ?_ | with_reducible refine x_iR1 ?_ | with_reducible refine x_iR2 ?_ | with_reducible refine x_iE ?_ | ((with_reducible apply x_kIL); (walk_at "sq")) | ((with_reducible apply x_kE); (walk_at "sq")) | with_reducible refine x_lc ?_ | with_reducible refine x_yes ?_ | ((with_reducible apply x_wp); exact rfl))
local macro_rules | `(tactic| walk_at "go") => `(tactic| (walk_at "go1"; repeat walk_at "go1"))
local macro_rules | `(tactic| walk_at "fr") => `(tactic| first | assumption | exact Kp.free (by assumption) _ (by walk_at "fr"))
local macro_rules | `(tactic| walk_at "lk") => `(tactic| first | exact lf_p _ _ | exact lf_d _ _ | exact lf_no _ _ (by decide +kernel) (by decide +kernel))
local macro_rules | `(tactic| walk_at "go1") => `(tactic| first | with_reducible refine x_rs ?_ | ((with_reducible apply x_niS); (walk_at "sq")) | ((with_reducible apply x_inS); (walk_at "sq")))
/-! ### more of heaps -/
theorem Kp.new {fp fq : List Addr} {H H1 H2 : Hp} (k : Kp fp H H1) (l : Kp fq H1 H2) (h : ∀ b ∈ fq, H b = none) : Kp fp H H2 :=
  ⟨fun b o e n => l.keep b o (k.keep b o e n) (fun z => by rw [h b z] at e; cases e), fun b xs e => l.tups b xs (k.tups b xs e), fun b e => k.free b (l.free b e)⟩
mutual
theorem Tp.eqvR {H : Hp} : ∀ {d : PyData} {v : V}, Tp H v d → PyData.eqv d d = true
  | .none, _, h => by simp only [PyData.eqv]
  | .bool _, _, h => by simp only [PyData.eqv, beq_self_eq_true]
  | .int _, _, h => by simp only [PyData.eqv, beq_self_eq_true]
  | .str _, _, h => by simp only [PyData.eqv, beq_self_eq_true]
  | .tuple _, _, h => by
    cases h with
    | tup e t => simp only [PyData.eqv]; exact TpAll.eqvR t
  | .list _, _, h => by cases h
  | .dict _, _, h => by cases h
theorem TpAll.eqvR {H : Hp} : ∀ {ds : List PyData} {vs : List V}, TpAll H vs ds → PyData.eqvAll ds ds = true
  | [], _, h => by simp only [PyData.eqvAll]
  | _ :: _, _, h => by
    cases h with
    | cons a b => simp only [PyData.eqvAll, Tp.eqvR a, TpAll.eqvR b, Bool.and_self]
end
theorem eqv_pcs {H : Hp} {ps : List Pc} (h : ∀ c ∈ ps, PcAt H c) : PyData.eqv (.list (ps.map (·.d))) (.list (ps.map (·.d))) = true := by
  simp only [PyData.eqv]
  exact TpAll.eqvR (tpAll_map (fun c : Pc => V.ref c.p) (fun c : Pc => c.d) fun c hc => (h c hc).dat)
/-! ### rules by promise -/
section
variable {X : Cx} {CX : CXT} {C : Addr} {k : Nat} {sp : Sp} {E : XK}
theorem lenM (M : Met X.prog X.w X.K X.mg X.base CX C "__len__" k sp) (hr : Room (k + 1) X.A) (hx : Passes CX X E) : CallR X (.builtin "len") (rLenI C sp E) := by
  obtain ⟨f, fd, ps, F, hf, hi, hk, hb⟩ := M.ex
  exact call_lenI F hf hi hr hb hx
theorem eqM (M : Met X.prog X.w X.K X.mg X.base CX C "__eq__" k sp) (hr : Room k X.A) (hx : Passes CX X E) : OpR X (compareOp .Eq) (rEqI C sp E) := by
  obtain ⟨f, fd, ps, F, hf, hi, hk, hb⟩ := M.ex
  exact op_eqI F hf hi hr hb hx
end
section
variable {K : PySem.W.Frag} {H : Hp} {Q : VK} {a b : Addr} {C : Addr} {sp : Sp} {E : XK}
theorem x_lenI {dx : Addr} {fs : List (Str × V)} (h : H a = some (.ins C dx fs)) (q : sp [.ref a] H (fun v H' => ∃ n : Int, v = .int n ∧ 0 ≤ n ∧ n < 2 ^ 63 ∧ Q (.int n) H') E) : rLenI C sp E [.ref a] H Q := ⟨a, dx, fs, rfl, h, q⟩
theorem x_eqO {dx dy : Addr} {fs gs : List (Str × V)} (h : H a = some (.ins C dx fs)) (h' : H b = some (.ins C dy gs)) (q : sp [.ref a, .ref b] H (fun v H' => ∃ t, v = .bl t ∧ Q (.bl t) H') E) : rEqI C sp E (.ref a) (.ref b) H Q := ⟨a, b, dx, dy, fs, gs, rfl, rfl, h, h', q⟩
theorem x_newL0 {E : XK} (h : ∀ l pl dl H', Kp [] H H' → H l = none → H pl = none → H dl = none → l ≠ pl → l ≠ dl → Lk C H' l pl dl [] [] → Q (.ref l) H') : kNew C (spNew C) E [] H Q := by
  intro x dx hx hd ne
  refine ⟨x, dx, rfl, upd_same, fun pl dl H' k n1 n2 L => ⟨rfl, ?_⟩⟩
  have k1 : Kp [] H (upd (upd H dx (.own x)) x (.ins C dx [])) := ((Kp.refl [] H).updNew hd).updFree hx
  have k2 : Kp [] H H' := k1.new k fun b hb => by rw [List.mem_singleton.mp hb]; exact hx
  have np : pl ≠ x := fun z => by rw [z, upd_same] at n1; cases n1
  have nq : dl ≠ x := fun z => by rw [z, upd_same] at n2; cases n2
  exact h x pl dl H' k2 hx (k1.free _ n1) (k1.free _ n2) np.symm nq.symm L
theorem x_isL {p : Addr} {xs : List V} (e : H p = some (.lst xs)) (kit : PySem.W.kitOne K (.type "list") (.type "list") = some true) (q : Q (.bl true) H) : rIsi K [.ref p, .ty "list"] H Q := ⟨_, _, _, _, _, rfl, .ty _, .base (.lst e), kit, q⟩
theorem x_isV {D dd : Addr} {fs : List (Str × V)} {c : V} {cv : Value} {b : Bool} (h1 : H a = some (exv a (.ref D) (some dd))) (h2 : H dd = some (.xd fs)) (T : ExcK K D) (hc : ClsV c cv) (e : PySem.W.kitOne K (.ref D) cv = some b) (q : Q (.bl b) H) : rIsV K [.ref a, c] H Q :=
  ⟨a, D, dd, fs, c, cv, b, rfl, ⟨h1, h2⟩, T, hc, e, q⟩
def kXv (K : PySem.W.Frag) (f : Str) (Q : VK) : VK := fun x H1 => ∃ (a D dd : Addr) (fs : List (Str × V)) (v : V), x = .ref a ∧ ExAt H1 a D dd fs ∧ ExcK K D ∧ PySem.W.findIn K (.ref D) f = some none ∧ fs.lookup f = some v ∧ Q v H1
theorem x_xvE {f : Str} {te : TE} {σ : L2.St} (h : te σ H (kXv K f Q)) : tXv K f te σ H Q := h
theorem x_xv {D dd : Addr} {f : Str} {v : V} (h1 : H a = some (exv a (.ref D) (some dd))) (h2 : H dd = some (.xd [(f, v)])) (T : ExcK K D) (n : PySem.W.findIn K (.ref D) f = some none) (q : Q v H) : kXv K f Q (.ref a) H :=
  ⟨a, D, dd, _, v, rfl, ⟨h1, h2⟩, T, n, by simp [List.lookup], q⟩
theorem x_cnt {ys : List V} {y : V} (ha : SqL K H a ys) (f1 : flatV y = true) (f2 : ys.all flatV = true) (q : Q (.int (ys.countP fun z => eqV z y : Nat)) H) : rCntF K (.ref a) [y] H Q := ⟨a, ys, y, rfl, rfl, ha, f1, f2, q⟩
theorem x_idx {ys : List V} {y z : V} {j : Nat} (ha : SqL K H a ys) (f1 : flatV y = true) (f2 : ys.all flatV = true) (e : ys[j]? = some z) (e2 : eqV z y = true) (no : ∀ (m : Nat) (z' : V), m < j → ys[m]? = some z' → eqV z' y = false) (q : Q (.int (j : Nat)) H) : rIndex K (.ref a) [y] H Q :=
  ⟨a, ys, y, j, z, rfl, rfl, ha, f1, f2, e, e2, no, q⟩
theorem not_before {c : Pc} {ps : List Pc} {i : Nat} (nd : (ps.map (·.nm)).Nodup) (h : ps[i]? = some c) : c.nm ∉ (ps.take i).map (·.nm) := by
  intro z
  obtain ⟨o, ho, e⟩ := List.mem_map.mp z
  obtain ⟨j, hj⟩ := List.getElem?_of_mem ho
  have hj' := (List.getElem?_eq_some_iff.mp hj).1
  rw [List.length_take] at hj'
  have hji : j < i := by omega
  rw [List.getElem?_take_of_lt hji] at hj
  have hjl : j < ps.length := by omega
  have hil : i < ps.length := (List.getElem?_eq_some_iff.mp h).1
  have e1 : (ps.map (·.nm))[j]? = (ps.map (·.nm))[i]? := by rw [List.getElem?_map, List.getElem?_map, hj, h]; simp [e]
  have := (List.getElem?_inj (by rw [List.length_map]; exact hjl) nd).mp e1
  omega
end
local macro_rules | `(tactic| walk_at "go1") => `(tactic| first | with_reducible refine x_xvE ?_ | ((with_reducible apply x_isV); (walk_at "hp"); (walk_at "hp"); assumption; (first | exact ClsV.own _ | exact ClsV.ty _); assumption) | ((with_reducible apply x_xv); (walk_at "hp"); (walk_at "hp"); assumption; assumption) | ((with_reducible apply x_addL); (walk_at "hp"); (walk_at "hp"); exact Nat.le_of_ble_eq_true rfl; intro _ _ _ _ _))
section
variable {P : Program} {w : World} {K : PySem.W.Frag} {mg : Str → Option Value} {base : Heap} {C : Addr}
def spLike (C : Addr) : Sp := fun vs H Q _ => ∃ (l pl dl r : Addr) (ps : List Pc) (ds : List Dn), vs = [.ref l, .ref r] ∧ Lk C H l pl dl ps ds ∧ Rows H r ps ∧ (ps.map (·.nm)).Nodup ∧ (∀ c ∈ ps, NmOk c.nm) ∧ ps.length ≤ 30 ∧ ∀ H', Kp [] H H' → Q (.bl true) H'
abbrev s_e_like : Stmt := top 24
theorem sc_e_like : FnScope ["linker", "rows", "other", "piece", "told"] ["linker", "rows"] (defScope s_e_like) := ⟨rfl, rfl, rfl, by decide +kernel, rfl, by decide +kernel, by decide +kernel⟩
theorem D_like {CM CT : Addr} (Z : Blt mg) (cl : Cls K C) (kitL : PySem.W.kitOne K (.type "list") (.type "list") = some true) (D_Linker_init : Met P w K mg base CX0 C "__init__" 1 (spNew C)) (MK_Linker : ClsMk K mg "Linker" C) (M_put : Met P w K mg base (L2.CX P w) C "put" 3 (spPut C CM CT))
    (M_names : Met P w K mg base CX0 C "names" 1 (spNames C)) (M_len : Met P w K mg base CX0 C "__len__" 1 (spLen C)) (M_eq : Met P w K mg base CX0 C "__eq__" 1 (spEqL C)) (D : DefAt K mg "_law_e_like" s_e_like ["linker", "rows"]) : Def P w K mg base CX0 "_law_e_like" 4 (spLike C) := by
  refine D.ok sc_e_like (fun vs H Q E h => by obtain ⟨l, pl, dl, r, ps, ds, rfl, _⟩ := h; rfl) fun f cdv A outer s H vs Q E hr h => ⟨_, (pss_cons (ps_set (i := 2) sc_e_like.nd rfl (Or.inl rfl) (pe_new0 D_Linker_init MK_Linker (hr.mono (by decide)) pass0)) (pss_cons (ps_for PassesOwn.never rfl (listIt (K := K) (pv 1)) (pg_name (i := 3) sc_e_like.nd rfl (Or.inl rfl)) (pss_one (ps_expr (pe_met M_put cl (hr.mono (by decide)) passL (pv 2) (pa_cons (pv 3) pa_nil))))) (pss_cons (ps_set (i := 4) sc_e_like.nd rfl (Or.inl rfl) (pe_met0 M_names cl (hr.mono (by decide)) pass0 (pv 0))) (pss_cons (ps_if (PW.pt (pw_or (pt_not (pt_val (pe_callB (isiK (K := K)) (by rfl) Z.isinstance (by decide +kernel) (pa_cons (pv 4) (pa_cons (pe_bltn (v := .ty "list") (u := .type "list") (by rfl) Z.list (by decide +kernel) rfl) pa_nil))))) (pw_or (pt_cmpR (neK (K := K) hr.units) (pv 4) (pe_lc (own := [("piece", 3)]) (g := gName 3) rfl sc_e_like.nd (listIt (K := K) (pv 1)) (blkOk_by (own := [("piece", 3)]) (N := ["linker", "rows", "other", "piece", "told"]) (sc := defScope s_e_like) (by decide +kernel)) (fun _ _ _ _ _ => (pg_name (i := 3) sc_e_like.nd rfl (Or.inl rfl))) (fun _ _ _ _ _ => pts_nil) (fun _ _ _ _ _ => (pe_ix (ixK (K := K)) (pv 3) pe_int (fun _ _ => rfl)))) (nomark _)) (pw_or1 (pt_cmpR (neK (K := K) hr.units) (pe_callB (lenM M_len (hr.mono (by decide)) pass0) (by rfl) Z.len PySem.boot_len (pa_cons (pv 0) pa_nil)) (pe_callB (lenK (K := K)) (by rfl) Z.len PySem.boot_len (pa_cons (pv 1) pa_nil)) (nomark _)))))) (pss_one (ps_ret pe_bl)) pss_nil) (pss_one (ps_ret (pe_and (pe_cmpR (eqM M_eq (hr.mono (by decide)) pass0) (pv 0) (pv 2) (nomark _)) (pe_one (pe_cmpR (eqM M_eq (hr.mono (by decide)) pass0) (pv 2) (pv 0) (nomark _)))))))))), ?_⟩
  obtain ⟨l, pl, dl, r, ps, ds, rfl, L, R, nd, nok, hz, k⟩ := h
  obtain ⟨⟨dx, hi⟩, hp, hd, pok, dok, ne⟩ := id L
  have hR := R.lst
  have hlen : (ps.map fun c => V.ref c.p).length = ps.length := List.length_map ..
  refine x_body ?_
  walk_at "go"
  refine x_newL0 fun m ql el H1 k1 n1 n2 n3 d1 d2 L1 => ?_
  walk_at "go"
  refine k_forL (fun i σ H' => ∃ v3 es, σ = [some (.ref l), some (.ref r), some (.ref m), v3, none] ∧ Kp [] H H' ∧ Lk C H' m ql el (ps.take i) es ∧ es.length = i) ⟨none, [], rfl, k1, by rw [List.take_zero]; exact L1, rfl⟩ (fun i σ H' _ ⟨_, _, _, k, _⟩ => SqL.of (k.get hR List.not_mem_nil)) ?_ ?_
  · rintro i x σ H2 hx ⟨v3, es, rfl, k2, L2, le⟩
    obtain ⟨c, hc, rfl⟩ := Option.map_eq_some_iff.mp (List.getElem?_map .. ▸ hx)
    have hil : i < ps.length := (List.getElem?_eq_some_iff.mp hc).1
    obtain ⟨⟨dx2, hi2⟩, _⟩ := id L2
    walk_at "go"
    refine ⟨m, ql, el, c, ps.take i, es, rfl, L2, (R.ok c (List.mem_of_getElem? hc)).kp k2, by rw [List.length_take]; omega, by omega, fun z => ?_, fun _ z => absurd z (not_before nd hc), fun _ _ a H3 k3 L3 => ?_⟩
    · rw [List.length_take] at z
      omega
    · refine ⟨_, _, rfl, k2.new k3 fun b hb => ?_, by rw [List.take_succ, hc]; exact L3, by rw [List.length_append, le]; rfl⟩
      rcases List.mem_cons.mp hb with rfl | hb
      · exact n2
      · rw [List.mem_singleton.mp hb]
        exact n3
  · rintro σ H2 ⟨v3, es, rfl, k2, L2, le⟩
    rw [hlen, List.take_length] at L2
    have LL := L.kp k2 List.not_mem_nil List.not_mem_nil List.not_mem_nil
    obtain ⟨⟨dx2, hi2⟩, _⟩ := id LL
    walk_at "go"
    refine ⟨l, pl, dl, ps, ds, rfl, LL, by omega, fun p H3 k3 n3 e3 => ?_⟩
    walk_at "go"
    refine x_isL e3 kitL ?_
    walk_at "go"
    refine lc_nms (R.kp (k2.trans k3) List.not_mem_nil) (by omega) (by simp) fun q H4 k4 n4 e4 => ?_
    have e34 : H4 p = some (.lst ((ps.map (·.nm)).map V.str)) := by walk_at "hp"
    have shs : Shp 60 (.list ((ps.map (·.nm)).map PyData.str)) := (shp_list (n := 1) fun x hx => by
      obtain ⟨c, hc, rfl⟩ := List.mem_map.mp hx
      exact Shp.str (nok c hc).ok).mono (by decide)
    have tps : ∀ x ∈ ps.map (·.nm), Tp H4 (V.str x) (PyData.str x) := fun x _ => .str x
    refine x_neD (dp_list e34 tps) (dp_list e4 tps) shs shs ?_
    have er : PyData.eqv (.list ((ps.map (·.nm)).map PyData.str)) (.list ((ps.map (·.nm)).map PyData.str)) = true := by
      simp only [PyData.eqv]
      exact TpAll.eqvR (tpAll_map _ _ tps)
    walk_at "go"
    refine k_bT er ?_
    have LL4 := (LL.kp k3 List.not_mem_nil List.not_mem_nil List.not_mem_nil).kp k4 List.not_mem_nil List.not_mem_nil List.not_mem_nil
    have LM4 := (L2.kp k3 List.not_mem_nil List.not_mem_nil List.not_mem_nil).kp k4 List.not_mem_nil List.not_mem_nil List.not_mem_nil
    obtain ⟨⟨dx4, hi4⟩, _⟩ := id LL4
    obtain ⟨⟨dy4, hj4⟩, _⟩ := id LM4
    have kk : Kp [] H H4 := (k2.trans k3).trans k4
    walk_at "go"
    refine x_lenI hi4 ⟨l, pl, dl, ps, ds, rfl, LL4, ps.length, rfl, by omega, by omega, ?_⟩
    walk_at "go"
    rw [hlen]
    refine k_is rfl ?_
    walk_at "go"
    have eq1 := eqv_pcs pok
    refine x_eqO hi4 hj4 ⟨l, pl, dl, m, ql, el, ps, ps, ds, es, rfl, LL4, LM4, true, by rw [eq1], ?_⟩
    walk_at "go"
    refine x_eqO hj4 hi4 ⟨m, ql, el, l, pl, dl, ps, ps, es, ds, rfl, LM4, LL4, true, by rw [eq1], ?_⟩
    exact k H4 kk
end
end WM
set_option Elab.async false
set_option linter.all false
set_option maxRecDepth 100000
set_option maxHeartbeats 2000000
namespace WM
open PySem PySem.Spec PyProof.Rows L2
local macro_rules | `(tactic| walk_at "ne") => `(tactic| first | assumption | exact Ne.symm (by assumption) | exact ne_fresh (by assumption) (by walk_at "hp") | exact (ne_fresh (by assumption) (by walk_at "hp")).symm | exact ne_kind (by walk_at "hp") (by walk_at "hp") (by intro z; cases z))
local macro_rules | `(tactic| walk_at "ni") => `(tactic| first | exact List.not_mem_nil | assumption | exact ni1 (by walk_at "ne") | exact ni2 (by walk_at "ne") (by walk_at "ne") | exact ni3 (by walk_at "ne") (by walk_at "ne") (by walk_at "ne"))
local macro_rules | `(tactic| walk_at "hp") => `(tactic| first | assumption | exact upd_same | (apply upd_getN; (assumption); (walk_at "hp")) | (apply Kp.tup; (assumption); (walk_at "hp")) | (apply Kp.get; (assumption); (walk_at "hp"); (walk_at "ni")))
local macro_rules | `(tactic| walk_at "sq") => `(tactic| first | assumption | exact SqL.of (by walk_at "hp") | (apply Kp.sqL; (assumption); (walk_at "sq"); (walk_at "ni")))
local macro_rules | `(tactic| walk_at "kp") => `(tactic| first | exact Kp.refl _ _ | assumption | exact Kp.nil (by assumption) | (refine' Kp.step (by assumption) ?_ (by first | exact fun _ z => z | exact fun _ z => nomatch z | simp); walk_at "kp"))
local macro_rules | `(tactic| walk_at "tp") => `(tactic| first | assumption | exact Tp.non | exact Tp.bl _ | exact Tp.int _ | exact Tp.str _ | (apply Tp.tup; (walk_at "hp"); (walk_at "tps")) | (apply Tp.kp; (assumption); (walk_at "tp")))
local macro_rules | `(tactic| walk_at "tps") => `(tactic| first | exact TpAll.nil | (refine TpAll.cons ?_ ?_; (walk_at "tp"); (walk_at "tps")))
local macro_rules | `(tactic| walk_at "lk") => `(tactic| first | assumption | rfl)
local macro_rules | `(tactic| walk_at "go1") => `(tactic| first | with_reducible refine x_seq ?_ | with_reducible refine x_asg ?_ | with_reducible refine x_drop ?_ | with_reducible refine x_ret ?_ | with_reducible refine x_if ?_ | with_reducible refine x_next ?_ | with_reducible refine x_par ?_ | with_reducible refine x_par3 ?_ | with_reducible refine x_two ?_ | with_reducible refine x_three ?_ | with_reducible refine x_sfld ?_ | with_reducible refine x_retN ?_ | with_reducible refine x_brk ?_ | with_reducible refine x_name ?_ | with_reducible refine x_gsub ?_ | with_reducible refine x_gcons ?_ | with_reducible refine x_gnil ?_ | ((with_reducible apply x_gtup); (walk_at "hp"); exact rfl) | ((with_reducible apply x_var); exact rfl) | with_reducible refine x_c ?_ | with_reducible refine x_op ?_ | with_reducible refine x_un ?_ | with_reducible refine x_nil ?_ | with_reducible refine x_cons ?_ | with_reducible refine x_tup ?_ | with_reducible refine x_lst ?_ | with_reducible refine x_fldE ?_ | ((with_reducible apply x_fld); (walk_at "hp"); assumption; assumption; (walk_at "lk")) | with_reducible refine x_cal ?_ | with_reducible refine x_metE ?_ | with_reducible refine x_calS ?_ | with_reducible refine x_metS ?_ | ((with_reducible apply x_met); (walk_at "hp"); (walk_at "lk")) | with_reducible refine x_newI ?_ | with_reducible refine x_cb ?_ | with_reducible refine x_bm ?_ | with_reducible refine x_bm0 ?_ | ((with_reducible apply x_bmL); (walk_at "hp")) | with_reducible refine x_sl ?_ | with_reducible refine x_nop ?_ | with_reducible refine x_part ?_ | with_reducible refine x_kP ?_ | with_reducible refine x_ife ?_ | with_reducible refine x_andV ?_ | with_reducible refine x_orV ?_ | with_reducible refine x_notV ?_ | with_reducible refine x_test ?_ | with_reducible refine x_tB ?_ | with_reducible refine x_kB ?_ | with_reducible refine x_and ?_ | with_reducible refine x_or ?_ | with_reducible refine x_not ?_ | with_reducible refine k_T ?_ | with_reducible refine k_F ?_ | with_reducible refine k_not ?_ | walk_at "go2")
local macro_rules | `(tactic| walk_at "go2") => `(tactic| first | ((with_reducible apply x_setF); (walk_at "hp"); assumption; assumption; exact Nat.le_of_ble_eq_true rfl; exact rfl; intro _ _ _) | ((with_reducible apply x_append); (walk_at "hp"); (first | omega | (simp; omega)); intro _ _ _) | ((with_reducible apply x_setL); (walk_at "hp"); exact rfl; intro _ _ _) | with_reducible refine x_addI ?_ | with_reducible refine x_cmp ?_ | with_reducible refine x_subI ?_ | with_reducible refine x_eqI ?_ | with_reducible refine x_eqS ?_ | with_reducible refine x_neI ?_ | with_reducible refine x_neS ?_ | with_reducible refine x_isNo ?_ | with_reducible refine x_notNo ?_ | ((with_reducible apply x_modI); (first | omega | decide)) | ((with_reducible apply x_divI); (first | omega | decide); (first | omega | decide)) | ((with_reducible apply x_mulI); (first | exact .inl ⟨by omega, by omega⟩ | exact .inr ⟨by decide, by decide⟩ | exact .inr ⟨by omega, by omega⟩)) | ((with_reducible apply x_powI); exact ⟨by decide, by decide, by decide⟩) | ((with_reducible apply x_ixT); (walk_at "hp"); exact rfl) | ((with_reducible apply x_ixL); (walk_at "sq"); exact rfl) | ((with_reducible apply x_lenL); (walk_at "sq")) | ((with_reducible apply x_newT); exact Nat.le_of_ble_eq_true rfl; intro _ _ _ _ _) | ((with_reducible apply x_newL); exact Nat.le_of_ble_eq_true rfl; intro _ _ _ _ _) | with_reducible refine x_for ?_ | with_reducible refine x_iL ?_ | with_reducible refine x_iR1 ?_ | with_reducible refine x_iR2 ?_ | with_reducible refine x_iE ?_ | ((with_reducible apply x_kIL); (walk_at "sq")) | ((with_reducible apply x_kE); (walk_at "sq")) | with_reducible refine x_lc ?_ | with_reducible refine x_yes ?_ | ((with_reducible apply x_wp); exact rfl))
local macro_rules | `(tactic| walk_at "go") => `(tactic| (walk_at "go1"; repeat walk_at "go1"))
local macro_rules | `(tactic| walk_at "fr") => `(tactic| first | assumption | exact Kp.free (by assumption) _ (by walk_at "fr"))
local macro_rules | `(tactic| walk_at "lk") => `(tactic| first | exact lf_p _ _ | exact lf_d _ _ | exact lf_no _ _ (by decide +kernel) (by decide +kernel))
local macro_rules | `(tactic| walk_at "go1") => `(tactic| first | with_reducible refine x_rs ?_ | ((with_reducible apply x_niS); (walk_at "sq")) | ((with_reducible apply x_inS); (walk_at "sq")))
local macro_rules | `(tactic| walk_at "go1") => `(tactic| first | with_reducible refine x_xvE ?_ | ((with_reducible apply x_isV); (walk_at "hp"); (walk_at "hp"); assumption; (first | exact ClsV.own _ | exact ClsV.ty _); assumption) | ((with_reducible apply x_xv); (walk_at "hp"); (walk_at "hp"); assumption; assumption) | ((with_reducible apply x_addL); (walk_at "hp"); (walk_at "hp"); exact Nat.le_of_ble_eq_true rfl; intro _ _ _ _ _))
structure ExG (mg : Str → Option Value) (cs : Nat → Addr) : Prop where
  g0 : mg "NoText" = some (.ref (cs 0))
  g1 : mg "Doubled" = some (.ref (cs 1))
  g2 : mg "Missing" = some (.ref (cs 2))
  g3 : mg "Skewed" = some (.ref (cs 3))
  g4 : mg "TooGreat" = some (.ref (cs 4))
  g5 : mg "Twin" = some (.ref (cs 5))
  g6 : mg "NoPiece" = some (.ref (cs 6))
  g7 : mg "TooMany" = some (.ref (cs 7))
  g8 : mg "Broken" = some (.ref (cs 8))
structure KindOk (K : PySem.W.Frag) (cs : Nat → Addr) (CW D : Addr) (j : Nat) (f : Str) : Prop where
  T : ExcK K D
  kit : ∀ i, i < 9 → PySem.W.kitOne K (.ref D) (.ref (cs i)) = some (decide (i = j))
  val : PySem.W.kitOne K (.ref D) (.type "ValueError") = some true
  fld : PySem.W.findIn K (.ref D) f = some none
  exm : PySem.W.exmOne K (.ref D) (.ref CW) = some true
def Rf.j : Rf → Nat
  | .many => 7 | .twin => 5 | .piece => 6
section
variable {P : Program} {w : World} {K : PySem.W.Frag} {mg : Str → Option Value} {base : Heap} {C : Addr}
def spKind (CM CT CN : Addr) : Sp := fun vs H Q _ => ∃ (a dd : Addr) (rf : Rf) (v : V), vs = [.ref a] ∧ H a = some (exv a (.ref (rf.C CM CT CN)) (some dd)) ∧ H dd = some (.xd [(rf.f, v)]) ∧ ∀ t H', Kp [] H H' → H' t = some (.tup [.str rf.w, v]) → Q (.ref t) H'
abbrev s_e_kind : Stmt := top 25
theorem sc_e_kind : FnScope ["caught", "names", "kinds", "word"] ["caught"] (defScope s_e_kind) := ⟨rfl, rfl, rfl, by decide +kernel, rfl, by decide +kernel, by decide +kernel⟩
theorem D_kind {cs : Nat → Addr} {CW CM CT CN : Addr} (Z : Blt mg) (G : ExG mg cs) (hk : ∀ rf : Rf, KindOk K cs CW (rf.C CM CT CN) rf.j rf.f) (D : DefAt K mg "_law_e_kind" s_e_kind ["caught"]) : Def P w K mg base CX0 "_law_e_kind" 1 (spKind CM CT CN) := by
  refine D.ok sc_e_kind (fun vs H Q E h => by obtain ⟨l, pl, dl, r, rfl, _⟩ := h; rfl) fun f cdv A outer s H vs Q E hr h => ⟨_, (pss_cons (ps_set (i := 1) sc_e_kind.nd rfl (Or.inl rfl) (pe_lst (pa_cons pe_str (pa_cons pe_str (pa_cons pe_str (pa_cons pe_str (pa_cons pe_str (pa_cons pe_str (pa_cons pe_str (pa_cons pe_str (pa_cons pe_str pa_nil))))))))))) (pss_cons (ps_set (i := 2) sc_e_kind.nd rfl (Or.inl rfl) (pe_lst (pa_cons (pe_callB (isVK (K := K)) (by rfl) Z.isinstance (by decide +kernel) (pa_cons (pv 0) (pa_cons (pe_glob (v := .ref _) rfl G.g0 rfl) pa_nil))) (pa_cons (pe_callB (isVK (K := K)) (by rfl) Z.isinstance (by decide +kernel) (pa_cons (pv 0) (pa_cons (pe_glob (v := .ref _) rfl G.g1 rfl) pa_nil))) (pa_cons (pe_callB (isVK (K := K)) (by rfl) Z.isinstance (by decide +kernel) (pa_cons (pv 0) (pa_cons (pe_glob (v := .ref _) rfl G.g2 rfl) pa_nil))) pa_nil))))) (pss_cons (ps_set (i := 2) sc_e_kind.nd rfl (Or.inl rfl) (pe_op op_addA (pv 2) (pe_lst (pa_cons (pe_callB (isVK (K := K)) (by rfl) Z.isinstance (by decide +kernel) (pa_cons (pv 0) (pa_cons (pe_glob (v := .ref _) rfl G.g3 rfl) pa_nil))) (pa_cons (pe_callB (isVK (K := K)) (by rfl) Z.isinstance (by decide +kernel) (pa_cons (pv 0) (pa_cons (pe_glob (v := .ref _) rfl G.g4 rfl) pa_nil))) (pa_cons (pe_callB (isVK (K := K)) (by rfl) Z.isinstance (by decide +kernel) (pa_cons (pv 0) (pa_cons (pe_glob (v := .ref _) rfl G.g5 rfl) pa_nil))) pa_nil)))))) (pss_cons (ps_set (i := 2) sc_e_kind.nd rfl (Or.inl rfl) (pe_op op_addA (pv 2) (pe_lst (pa_cons (pe_callB (isVK (K := K)) (by rfl) Z.isinstance (by decide +kernel) (pa_cons (pv 0) (pa_cons (pe_glob (v := .ref _) rfl G.g6 rfl) pa_nil))) (pa_cons (pe_callB (isVK (K := K)) (by rfl) Z.isinstance (by decide +kernel) (pa_cons (pv 0) (pa_cons (pe_glob (v := .ref _) rfl G.g7 rfl) pa_nil))) (pa_cons (pe_callB (isVK (K := K)) (by rfl) Z.isinstance (by decide +kernel) (pa_cons (pv 0) (pa_cons (pe_glob (v := .ref _) rfl G.g8 rfl) pa_nil))) pa_nil)))))) (pss_cons (ps_if (PW.pt (pw_or (pt_cmpR (neK (K := K) hr.units) (bmK (K := K) PySem.F.plainAttrs_list PySem.F.slot_list_count PySem.F.type_list_count (cntK (K := K)) (pv 2) (pa_cons pe_bl pa_nil)) pe_int (nomark _)) (pw_or1 (pt_not (pt_val (pe_callB (isVK (K := K)) (by rfl) Z.isinstance (by decide +kernel) (pa_cons (pv 0) (pa_cons (pe_bltn (v := .ty "ValueError") (u := .type "ValueError") (by rfl) Z.ValueError (by decide +kernel) rfl) pa_nil)))))))) (pss_one (ps_ret (pe_tup (pa_cons pe_str pa_nil)))) pss_nil) (pss_cons (ps_set (i := 3) sc_e_kind.nd rfl (Or.inl rfl) (pe_ix (ixK (K := K)) (pv 1) (bmK (K := K) PySem.F.plainAttrs_list PySem.F.slot_list_index PySem.F.type_list_index (idxK (K := K)) (pv 2) (pa_cons pe_bl pa_nil)) (fun _ _ => rfl))) (pss_cons (ps_if (pt_cmpR (eqK (K := K) hr.units) (pv 3) pe_str (nomark _)) (pss_one (ps_ret (pe_tup (pa_cons (pv 3) (pa_cons (xvK (K := K) (pv 0)) (pa_cons (xvK (K := K) (pv 0)) (pa_cons (xvK (K := K) (pv 0)) pa_nil))))))) pss_nil) (pss_cons (ps_if (PW.pt (pw_or (pt_cmpR (eqK (K := K) hr.units) (pv 3) pe_str (nomark _)) (pw_or1 (pt_cmpR (eqK (K := K) hr.units) (pv 3) pe_str (nomark _))))) (pss_one (ps_ret (pe_tup (pa_cons (pv 3) (pa_cons (xvK (K := K) (pv 0)) (pa_cons (xvK (K := K) (pv 0)) pa_nil)))))) pss_nil) (pss_cons (ps_if (PW.pt (pw_or (pt_cmpR (eqK (K := K) hr.units) (pv 3) pe_str (nomark _)) (pw_or1 (pt_cmpR (eqK (K := K) hr.units) (pv 3) pe_str (nomark _))))) (pss_one (ps_ret (pe_tup (pa_cons (pv 3) (pa_cons (xvK (K := K) (pv 0)) pa_nil))))) pss_nil) (pss_cons (ps_if (PW.pt (pw_or (pt_cmpR (eqK (K := K) hr.units) (pv 3) pe_str (nomark _)) (pw_or1 (pt_cmpR (eqK (K := K) hr.units) (pv 3) pe_str (nomark _))))) (pss_one (ps_ret (pe_tup (pa_cons (pv 3) (pa_cons (xvK (K := K) (pv 0)) pa_nil))))) pss_nil) (pss_one (ps_ret (pe_tup (pa_cons (pv 3) (pa_cons (pe_ifExp (pt_cmpR (eqK (K := K) hr.units) (pv 3) pe_str (nomark _)) (xvK (K := K) (pv 0)) (xvK (K := K) (pv 0))) pa_nil))))))))))))))), ?_⟩
  obtain ⟨a, dd, rf, v, rfl, ha, hd, k⟩ := h
  refine x_body ?_
  have kd := hk rf
  have kT := kd.T
  have kV := kd.val
  have kF := kd.fld
  have b0 := kd.kit 0 (by decide)
  have b1 := kd.kit 1 (by decide)
  have b2 := kd.kit 2 (by decide)
  have b3 := kd.kit 3 (by decide)
  have b4 := kd.kit 4 (by decide)
  have b5 := kd.kit 5 (by decide)
  have b6 := kd.kit 6 (by decide)
  have b7 := kd.kit 7 (by decide)
  have b8 := kd.kit 8 (by decide)
  walk_at "go"
  cases rf with
  | many =>
    refine x_cnt (by walk_at "sq") rfl rfl ?_
    walk_at "go"
    refine k_is (by decide) ?_
    walk_at "go"
    refine x_idx (j := 7) (z := .bl true) (by walk_at "sq") rfl rfl rfl rfl (fun m z' hm e => by rcases m with _ | _ | _ | _ | _ | _ | _ | m <;> first | (cases e; rfl) | omega) ?_
    walk_at "go"
    refine k_no (show ¬ ("many" : Str) = "doubled" by decide +kernel) ?_
    walk_at "go"
    refine k_no (show ¬ ("many" : Str) = "missing" by decide +kernel) ?_
    walk_at "go"
    refine k_no (show ¬ ("many" : Str) = "skewed" by decide +kernel) ?_
    walk_at "go"
    refine k_no (show ¬ ("many" : Str) = "twin" by decide +kernel) ?_
    walk_at "go"
    refine k_no (show ¬ ("many" : Str) = "piece" by decide +kernel) ?_
    walk_at "go"
    refine k_no (show ¬ ("many" : Str) = "great" by decide +kernel) ?_
    walk_at "go"
    refine k_is (show ("many" : Str) = "many" from rfl) ?_
    walk_at "go"
    refine k _ _ (by walk_at "kp") (by assumption)
  | twin =>
    refine x_cnt (by walk_at "sq") rfl rfl ?_
    walk_at "go"
    refine k_is (by decide) ?_
    walk_at "go"
    refine x_idx (j := 5) (z := .bl true) (by walk_at "sq") rfl rfl rfl rfl (fun m z' hm e => by rcases m with _ | _ | _ | _ | _ | _ | _ | m <;> first | (cases e; rfl) | omega) ?_
    walk_at "go"
    refine k_no (show ¬ ("twin" : Str) = "doubled" by decide +kernel) ?_
    walk_at "go"
    refine k_no (show ¬ ("twin" : Str) = "missing" by decide +kernel) ?_
    walk_at "go"
    refine k_no (show ¬ ("twin" : Str) = "skewed" by decide +kernel) ?_
    walk_at "go"
    refine k_is (show ("twin" : Str) = "twin" from rfl) ?_
    walk_at "go"
    refine k _ _ (by walk_at "kp") (by assumption)
  | piece =>
    refine x_cnt (by walk_at "sq") rfl rfl ?_
    walk_at "go"
    refine k_is (by decide) ?_
    walk_at "go"
    refine x_idx (j := 6) (z := .bl true) (by walk_at "sq") rfl rfl rfl rfl (fun m z' hm e => by rcases m with _ | _ | _ | _ | _ | _ | _ | m <;> first | (cases e; rfl) | omega) ?_
    walk_at "go"
    refine k_no (show ¬ ("piece" : Str) = "doubled" by decide +kernel) ?_
    walk_at "go"
    refine k_no (show ¬ ("piece" : Str) = "missing" by decide +kernel) ?_
    walk_at "go"
    refine k_no (show ¬ ("piece" : Str) = "skewed" by decide +kernel) ?_
    walk_at "go"
    refine k_no (show ¬ ("piece" : Str) = "twin" by decide +kernel) ?_
    walk_at "go"
    refine k_is (show ("piece" : Str) = "piece" from rfl) ?_
    walk_at "go"
    refine k _ _ (by walk_at "kp") (by assumption)
end
end WM
set_option Elab.async false
set_option linter.all false
set_option maxRecDepth 100000
set_option maxHeartbeats 2000000
namespace WM
open PySem PySem.Spec PyProof.Rows L2
local macro_rules | `(tactic| walk_at "ne") => `(tactic| first | assumption | exact Ne.symm (by assumption) | exact ne_fresh (by assumption) (by walk_at "hp") | exact (ne_fresh (by assumption) (by walk_at "hp")).symm | exact ne_kind (by walk_at "hp") (by walk_at "hp") (by intro z; cases z))
local macro_rules | `(tactic| walk_at "ni") => `(tactic| first | exact List.not_mem_nil | assumption | exact ni1 (by walk_at "ne") | exact ni2 (by walk_at "ne") (by walk_at "ne") | exact ni3 (by walk_at "ne") (by walk_at "ne") (by walk_at "ne"))
local macro_rules | `(tactic| walk_at "hp") => `(tactic| first | assumption | exact upd_same | (apply upd_getN; (assumption); (walk_at "hp")) | (apply Kp.tup; (assumption); (walk_at "hp")) | (apply Kp.get; (assumption); (walk_at "hp"); (walk_at "ni")))
local macro_rules | `(tactic| walk_at "sq") => `(tactic| first | assumption | exact SqL.of (by walk_at "hp") | (apply Kp.sqL; (assumption); (walk_at "sq"); (walk_at "ni")))
local macro_rules | `(tactic| walk_at "kp") => `(tactic| first | exact Kp.refl _ _ | assumption | exact Kp.nil (by assumption) | (refine' Kp.step (by assumption) ?_ (by first | exact fun _ z => z | exact fun _ z => nomatch z | simp); walk_at "kp"))
local macro_rules | `(tactic| walk_at "tp") => `(tactic| first | assumption | exact Tp.non | exact Tp.bl _ | exact Tp.int _ | exact Tp.str _ | (apply Tp.tup; (walk_at "hp"); (walk_at "tps")) | (apply Tp.kp; (assumption); (walk_at "tp")))
local macro_rules | `(tactic| walk_at "tps") => `(tactic| first | exact TpAll.nil | (refine TpAll.cons ?_ ?_; (walk_at "tp"); (walk_at "tps")))
local macro_rules | `(tactic| walk_at "lk") => `(tactic| first | assumption | rfl)
local macro_rules | `(tactic| walk_at "go1") => `(tactic| first | with_reducible refine x_seq ?_ | with_reducible refine x_asg ?_ | with_reducible refine x_drop ?_ | with_reducible refine x_ret ?_ | with_reducible refine x_if ?_ | with_reducible refine x_next ?_ | with_reducible refine x_par ?_ | with_reducible refine x_par3 ?_ | with_reducible refine x_two ?_ | with_reducible refine x_three ?_ | with_reducible refine x_sfld ?_ | with_reducible refine x_retN ?_ | with_reducible refine x_brk ?_ | with_reducible refine x_name ?_ | with_reducible refine x_gsub ?_ | with_reducible refine x_gcons ?_ | with_reducible refine x_gnil ?_ | ((with_reducible apply x_gtup); (walk_at "hp"); exact rfl) | ((with_reducible apply x_var); exact rfl) | with_reducible refine x_c ?_ | with_reducible refine x_op ?_ | with_reducible refine x_un ?_ | with_reducible refine x_nil ?_ | with_reducible refine x_cons ?_ | with_reducible refine x_tup ?_ | with_reducible refine x_lst ?_ | with_reducible refine x_fldE ?_ | ((with_reducible apply x_fld); (walk_at "hp"); assumption; assumption; (walk_at "lk")) | with_reducible refine x_cal ?_ | with_reducible refine x_metE ?_ | with_reducible refine x_calS ?_ | with_reducible refine x_metS ?_ | ((with_reducible apply x_met); (walk_at "hp"); (walk_at "lk")) | with_reducible refine x_newI ?_ | with_reducible refine x_cb ?_ | with_reducible refine x_bm ?_ | with_reducible refine x_bm0 ?_ | ((with_reducible apply x_bmL); (walk_at "hp")) | with_reducible refine x_sl ?_ | with_reducible refine x_nop ?_ | with_reducible refine x_part ?_ | with_reducible refine x_kP ?_ | with_reducible refine x_ife ?_ | with_reducible refine x_andV ?_ | with_reducible refine x_orV ?_ | with_reducible refine x_notV ?_ | with_reducible refine x_test ?_ | with_reducible refine x_tB ?_ | with_reducible refine x_kB ?_ | with_reducible refine x_and ?_ | with_reducible refine x_or ?_ | with_reducible refine x_not ?_ | with_reducible refine k_T ?_ | with_reducible refine k_F ?_ | with_reducible refine k_not ?_ | walk_at "go2")
local macro_rules | `(tactic| walk_at "go2") => `(tactic| first | ((with_reducible apply x_setF); (walk_at "hp"); assumption; assumption; exact Nat.le_of_ble_eq_true rfl; exact rfl; intro _ _ _) | ((with_reducible apply x_append); (walk_at "hp"); (first | omega | (simp; omega)); intro _ _ _) | ((with_reducible apply x_setL); (walk_at "hp"); exact rfl; intro _ _ _) | with_reducible refine x_addI ?_ | with_reducible refine x_cmp ?_ | with_reducible refine x_subI ?_ | with_reducible refine x_eqI ?_ | with_reducible refine x_eqS ?_ | with_reducible refine x_neI ?_ | with_reducible refine x_neS ?_ | with_reducible refine x_isNo ?_ | with_reducible refine x_notNo ?_ | ((with_reducible apply x_modI); (first | omega | decide)) | ((with_reducible apply x_divI); (first | omega | decide); (first | omega | decide)) | ((with_reducible apply x_mulI); (first | exact .inl ⟨by omega, by omega⟩ | exact .inr ⟨by decide, by decide⟩ | exact .inr ⟨by omega, by omega⟩)) | ((with_reducible apply x_powI); exact ⟨by decide, by decide, by decide⟩) | ((with_reducible apply x_ixT); (walk_at "hp"); exact rfl) | ((with_reducible apply x_ixL); (walk_at "sq"); exact rfl) | ((with_reducible apply x_lenL); (walk_at "sq")) | ((with_reducible apply x_newT); exact Nat.le_of_ble_eq_true rfl; intro _ _ _ _ _) | ((with_reducible apply x_newL); exact Nat.le_of_ble_eq_true rfl; intro _ _ _ _ _) | with_reducible refine x_for ?_ | with_reducible refine x_iL ?_ | with_reducible refine x_iR1 ?_ | with_reducible refine x_iR2 ?_ | with_reducible refine x_iE ?_ | ((with_reducible apply x_kIL); (walk_at "sq")) | ((with_reducible apply x_kE); (walk_at "sq")) | with_reducible refine x_lc ?_ | with_reducible refine x_yes ?_ | ((with_reducible apply x_wp); exact rfl))
local macro_rules | `(tactic| walk_at "go") => `(tactic| (walk_at "go1"; repeat walk_at "go1"))
local macro_rules | `(tactic| walk_at "fr") => `(tactic| first | assumption | exact Kp.free (by assumption) _ (by walk_at "fr"))
local macro_rules | `(tactic| walk_at "lk") => `(tactic| first | exact lf_p _ _ | exact lf_d _ _ | exact lf_no _ _ (by decide +kernel) (by decide +kernel))
local macro_rules | `(tactic| walk_at "go1") => `(tactic| first | with_reducible refine x_rs ?_ | ((with_reducible apply x_niS); (walk_at "sq")) | ((with_reducible apply x_inS); (walk_at "sq")))
local macro_rules | `(tactic| walk_at "go1") => `(tactic| first | with_reducible refine x_xvE ?_ | ((with_reducible apply x_isV); (walk_at "hp"); (walk_at "hp"); assumption; (first | exact ClsV.own _ | exact ClsV.ty _); assumption) | ((with_reducible apply x_xv); (walk_at "hp"); (walk_at "hp"); assumption; assumption) | ((with_reducible apply x_addL); (walk_at "hp"); (walk_at "hp"); exact Nat.le_of_ble_eq_true rfl; intro _ _ _ _ _))
theorem Refs.uniq {ps : List Pc} : ∀ {d : Dd} {r r' : Rf}, Refs ps d r → Refs ps d r' → r = r'
  | .put _, .many, .many, _, _ => rfl
  | .put _, .twin, .twin, _, _ => rfl
  | .put _, .many, .twin, h, h' => by
    have h1 : 30 ≤ ps.length := h
    have h2 : ps.length < 30 := h'.1
    omega
  | .put _, .twin, .many, h, h' => by
    have h1 : 30 ≤ ps.length := h'
    have h2 : ps.length < 30 := h.1
    omega
  | .exch _, .piece, .piece, _, _ => rfl
  | .take _, .piece, .piece, _, _ => rfl
theorem Refs.noStep {ps qs : List Pc} {e : Dn} : ∀ {d : Dd} {r : Rf}, Refs ps d r → Step ps d qs e → False
  | .put _, .many, h, s => by
    have h1 : 30 ≤ ps.length := h
    have h2 : ps.length < 30 := s.1
    omega
  | .put _, .twin, h, s => s.2.1 h.2
  | .exch _, .piece, h, s => by
    obtain ⟨i, o, ho, e, _⟩ := s
    exact h o (List.mem_of_getElem? ho) e
  | .take _, .piece, h, s => by
    obtain ⟨i, o, ho, e, _⟩ := s
    exact h o (List.mem_of_getElem? ho) e
def Rf.d (d : Dd) : Rf → PyData
  | .many => .int 30 | .twin => .str d.nm | .piece => .str d.nm
theorem Rf.tp {H : Hp} {d : Dd} : ∀ rf : Rf, Tp H (rf.v d) (rf.d d)
  | .many => .int _ | .twin => .str _ | .piece => .str _
theorem Rf.ok (rf : Rf) : PyData.strOk rf.w = true := by cases rf <;> decide +kernel
theorem Rf.shp {d : Dd} (h : PyData.strOk d.nm = true) (rf : Rf) : Shp 60 (.tuple [.str rf.w, rf.d d]) := by
  refine (Shp.tuple (n := 1) fun x hx => ?_).mono (by decide)
  simp only [List.mem_cons, List.not_mem_nil, or_false] at hx
  rcases hx with rfl | rfl
  · exact Shp.str (Rf.ok _)
  · cases rf
    · exact Shp.int _
    · exact Shp.str h
    · exact Shp.str h
theorem x_tryCal {K : PySem.W.Frag} {sp : Sp} {c : Value} {i : Nat} {ts : Addr → Value → Option Addr → TS} {Wout : WX} {ta : TA} {N B Ct : L2.St → Hp → Prop} {R : VK} {σ : L2.St} {H : Hp}
    (h : ta σ H fun vs H1 => sp vs H1 (fun _ H2 => N σ H2) (WE (wAsV K c i ts Wout { nx := N, rt := R, bk := B, ct := Ct }) σ)) : Run (fun D σ H => tDrop (tCalS sp (WE (wAsV K c i ts Wout D)) ta) D σ H) N R B Ct σ H := h
theorem x_ends {t : TS} {D : Ends} {σ : L2.St} {H : Hp} (h : Run t D.nx D.rt D.bk D.ct σ H) : t D σ H := h
theorem x_endV {a : Addr} {cls : Value} {d : Option Addr} {i : Nat} {N B Ct : L2.St → Hp → Prop} {R : VK} {σ : L2.St} {H : Hp} (h : ∀ H', Kp [] H H' → H' a = some (exv a cls d) → N (σ.set i none) H') :
    (endV a cls d i { nx := N, rt := R, bk := B, ct := Ct }).nx σ H := fun hn => h _ ((Kp.refl _ _).updNew hn) upd_same
section
variable {P : Program} {w : World} {K : PySem.W.Frag} {mg : Str → Option Value} {base : Heap} {C : Addr}
def spWord (C : Addr) : Sp := fun vs H Q _ => ∃ (l pl dl a : Addr) (d : Dd) (ps : List Pc) (ds : List Dn) (rf : Rf), vs = [.ref l, .ref a] ∧ Lk C H l pl dl ps ds ∧ DdAt H a d ∧ ps.length ≤ 1000 ∧ ds.length ≤ 50000 ∧ Refs ps d rf ∧ PyData.strOk d.nm = true ∧
  ∀ t H', Kp [] H H' → H' t = some (.tup [.str rf.w, rf.v d]) → Q (.ref t) H'
abbrev s_e_word : Stmt := top 26
theorem sc_e_word : FnScope ["linker", "deed", "found", "turn", "caught", "e"] ["linker", "deed"] (defScope s_e_word) := ⟨rfl, rfl, rfl, by decide +kernel, rfl, by decide +kernel, by decide +kernel⟩
theorem D_word {cs : Nat → Addr} {CW CM CT CN : Addr} (Z : Blt mg) (GW : mg "WeldError" = some (.ref CW)) (hk : ∀ rf : Rf, KindOk K cs CW (rf.C CM CT CN) rf.j rf.f) (D_e_do : Def P w K mg base (L2.CX P w) "_law_e_do" 5 (spDo C CM CT CN)) (D_e_kind : Def P w K mg base CX0 "_law_e_kind" 1 (spKind CM CT CN))
    (D : DefAt K mg "_law_e_word" s_e_word ["linker", "deed"]) : Def P w K mg base CX0 "_law_e_word" 6 (spWord C) := by
  refine D.ok sc_e_word (fun vs H Q E h => by obtain ⟨l, pl, dl, a, d, ps, ds, rf, rfl, _⟩ := h; rfl) fun f cdv A outer s H vs Q E hr h => ⟨_, (pss_cons (ps_set (i := 2) sc_e_word.nd rfl (Or.inl rfl) (pe_lst pa_nil)) (pss_cons (ps_for PassesOwn.never rfl (pi_range1 (by rfl) Z.range (pa_cons pe_int pa_nil)) (pg_name (i := 3) sc_e_word.nd rfl (Or.inl rfl)) (pss_cons (ps_set (i := 4) sc_e_word.nd rfl (Or.inl rfl) pe_non) (pss_cons (ps_try_asV (i := 5) rfl rfl rfl sc_e_word.nd rfl rfl ⟨rfl, by decide, Or.inl GW⟩ takes0 (fun W pn xe tk hpo => (pss_one (ps_expr (pe_defS D_e_do (hr.mono (by decide)) (fun σ => passAt tk σ) (pa_cons (pv 0) (pa_cons (pv 1) pa_nil)))))) (fun a oe cls d pn _ _ => (pss_one (ps_set (i := 4) sc_e_word.nd rfl (Or.inl rfl) (pv 5))))) (pss_one (ps_expr (bmK (K := K) PySem.F.plainAttrs_list PySem.F.slot_list_append PySem.F.type_list_append mt_append (pv 2) (pa_cons (pe_ifExp (pt_cmpR op_isNo (pv 4) pe_non (nomark _)) (pe_tup (pa_cons pe_str pa_nil)) (pe_def D_e_kind (hr.mono (by decide)) pass0 (pa_cons (pv 4) pa_nil))) pa_nil))))))) (pss_one (ps_ret (pe_ifExp (pt_cmpR (eqK (K := K) hr.units) (pe_ix (ixK (K := K)) (pv 2) pe_int (fun _ _ => rfl)) (pe_ix (ixK (K := K)) (pv 2) pe_int (fun _ _ => rfl)) (nomark _)) (pe_ix (ixK (K := K)) (pv 2) pe_int (fun _ _ => rfl)) (pe_tup (pa_cons pe_str pa_nil))))))), ?_⟩
  obtain ⟨l, pl, dl, a, d, ps, ds, rf, rfl, L, hd, hz, hz2, hrf, hok, k⟩ := h
  refine x_body ?_
  walk_at "go"
  rename_i F H1 k1 n1 e1
  refine x_kR1 (by decide) (by decide) ?_
  refine k_forR (fun i σ H' => ∃ v3 v4 ts, σ = [some (.ref l), some (.ref a), some (.ref F), v3, v4, none] ∧ Kp [] H H' ∧ H' F = some (.lst (ts.map V.ref)) ∧ ts.length = i ∧ ∀ t ∈ ts, H' t = some (.tup [.str rf.w, rf.v d])) ⟨none, none, [], rfl, k1, e1, rfl, fun _ z => nomatch z⟩ ?_ ?_
  · rintro i σ H2 hi ⟨v3, v4, ts, rfl, k2, e2, lt, ht⟩
    walk_at "go"
    refine x_tryCal ?_
    walk_at "go"
    have LL := L.kp k2 List.not_mem_nil List.not_mem_nil List.not_mem_nil
    refine ⟨l, pl, dl, a, d, ps, ds, rfl, LL, hd.kp k2, hz, hz2, fun rf' h' => ?_, fun qs e H' st _ _ => (hrf.noStep st).elim⟩
    rw [hrf.uniq h'] at *
    intro dd H3 k3 n3 e3
    refine ⟨true, (hk rf').exm, fun _ ex hex => x_ends ?_, fun z => nomatch z⟩
    walk_at "go"
    refine x_endV fun H4 k4 e4 => ?_
    walk_at "go"
    refine k_no (fun z => nomatch z) ?_
    walk_at "go"
    refine ⟨ex, dd, rf', rf'.v d, rfl, e4, k4.get e3 List.not_mem_nil, fun t H5 k5 e5 => ?_⟩
    have e2' : H5 F = some (.lst (ts.map V.ref)) := k5.get (k4.get (k3.get e2 List.not_mem_nil) List.not_mem_nil) List.not_mem_nil
    have hl2 : (ts.map V.ref).length < 100000 := by rw [List.length_map]; omega
    walk_at "go"
    rename_i H6 k6 e6
    have k26 : Kp [] H H5 := ((k2.trans k3).trans k4).trans k5
    refine ⟨_, _, ts ++ [t], rfl, k26.new k6 fun b hb => by rw [List.mem_singleton.mp hb]; exact n1, by rw [e6, List.map_append]; rfl, by rw [List.length_append, lt]; rfl, fun t' ht' => ?_⟩
    rcases List.mem_append.mp ht' with z | z
    · exact k6.tup (k5.tup (k4.tup (k3.tup (ht t' z))))
    · rw [List.mem_singleton.mp z]
      exact k6.tup e5
  · rintro σ H2 ⟨v3, v4, ts, rfl, k2, e2, lt, ht⟩
    have lt2 : ts.length = 2 := lt
    obtain ⟨t1, t2, rfl⟩ : ∃ t1 t2, ts = [t1, t2] := by
      match ts, lt2 with
      | [t1, t2], _ => exact ⟨t1, t2, rfl⟩
    have h1 := ht t1 List.mem_cons_self
    have h2 := ht t2 (List.mem_cons_of_mem _ List.mem_cons_self)
    walk_at "go"
    have tp : ∀ {t : Addr}, H2 t = some (.tup [.str rf.w, rf.v d]) → Dp K H2 (.ref t) (.tuple [.str rf.w, rf.d d]) := fun h => (Tp.tup h (.cons (.str _) (.cons (Rf.tp rf) .nil))).dp
    refine x_eqD (tp h1) (tp h2) (Rf.shp hok rf) (Rf.shp hok rf) ?_
    have er : PyData.eqv (.tuple [.str rf.w, rf.d d]) (.tuple [.str rf.w, rf.d d]) = true := Tp.eqvR (Tp.tup h1 (.cons (.str _) (.cons (Rf.tp rf) .nil)))
    walk_at "go"
    refine k_bT er ?_
    walk_at "go"
    exact k t1 H2 k2 h1
end
end WM
set_option Elab.async false
set_option linter.all false
set_option maxRecDepth 100000
set_option maxHeartbeats 2000000
namespace WM
open PySem PySem.Spec PyProof.Rows L2
local macro_rules | `(tactic| walk_at "ne") => `(tactic| first | assumption | exact Ne.symm (by assumption) | exact ne_fresh (by assumption) (by walk_at "hp") | exact (ne_fresh (by assumption) (by walk_at "hp")).symm | exact ne_kind (by walk_at "hp") (by walk_at "hp") (by intro z; cases z))
local macro_rules | `(tactic| walk_at "ni") => `(tactic| first | exact List.not_mem_nil | assumption | exact ni1 (by walk_at "ne") | exact ni2 (by walk_at "ne") (by walk_at "ne") | exact ni3 (by walk_at "ne") (by walk_at "ne") (by walk_at "ne"))
local macro_rules | `(tactic| walk_at "hp") => `(tactic| first | assumption | exact upd_same | (apply upd_getN; (assumption); (walk_at "hp")) | (apply Kp.tup; (assumption); (walk_at "hp")) | (apply Kp.get; (assumption); (walk_at "hp"); (walk_at "ni")))
local macro_rules | `(tactic| walk_at "sq") => `(tactic| first | assumption | exact SqL.of (by walk_at "hp") | (apply Kp.sqL; (assumption); (walk_at "sq"); (walk_at "ni")))
local macro_rules | `(tactic| walk_at "kp") => `(tactic| first | exact Kp.refl _ _ | assumption | exact Kp.nil (by assumption) | (refine' Kp.step (by assumption) ?_ (by first | exact fun _ z => z | exact fun _ z => nomatch z | simp); walk_at "kp"))
local macro_rules | `(tactic| walk_at "tp") => `(tactic| first | assumption | exact Tp.non | exact Tp.bl _ | exact Tp.int _ | exact Tp.str _ | (apply Tp.tup; (walk_at "hp"); (walk_at "tps")) | (apply Tp.kp; (assumption); (walk_at "tp")))
local macro_rules | `(tactic| walk_at "tps") => `(tactic| first | exact TpAll.nil | (refine TpAll.cons ?_ ?_; (walk_at "tp"); (walk_at "tps")))
local macro_rules | `(tactic| walk_at "lk") => `(tactic| first | assumption | rfl)
local macro_rules | `(tactic| walk_at "go1") => `(tactic| first | with_reducible refine x_seq ?_ | with_reducible refine x_asg ?_ | with_reducible refine x_drop ?_ | with_reducible refine x_ret ?_ | with_reducible refine x_if ?_ | with_reducible refine x_next ?_ | with_reducible refine x_par ?_ | with_reducible refine x_par3 ?_ | with_reducible refine x_two ?_ | with_reducible refine x_three ?_ | with_reducible refine x_sfld ?_ | with_reducible refine x_retN ?_ | with_reducible refine x_brk ?_ | with_reducible refine x_name ?_ | with_reducible refine x_gsub ?_ | with_reducible refine x_gcons ?_ | with_reducible refine x_gnil ?_ | ((with_reducible apply x_gtup); (walk_at "hp"); exact rfl) | ((with_reducible apply x_var); exact rfl) | with_reducible refine x_c ?_ | with_reducible refine x_op ?_ | with_reducible refine x_un ?_ | with_reducible refine x_nil ?_ | with_reducible refine x_cons ?_ | with_reducible refine x_tup ?_ | with_reducible refine x_lst ?_ | with_reducible refine x_fldE ?_ | ((with_reducible apply x_fld); (walk_at "hp"); assumption; assumption; (walk_at "lk")) | with_reducible refine x_cal ?_ | with_reducible refine x_metE ?_ | with_reducible refine x_calS ?_ | with_reducible refine x_metS ?_ | ((with_reducible apply x_met); (walk_at "hp"); (walk_at "lk")) | with_reducible refine x_newI ?_ | with_reducible refine x_cb ?_ | with_reducible refine x_bm ?_ | with_reducible refine x_bm0 ?_ | ((with_reducible apply x_bmL); (walk_at "hp")) | with_reducible refine x_sl ?_ | with_reducible refine x_nop ?_ | with_reducible refine x_part ?_ | with_reducible refine x_kP ?_ | with_reducible refine x_ife ?_ | with_reducible refine x_andV ?_ | with_reducible refine x_orV ?_ | with_reducible refine x_notV ?_ | with_reducible refine x_test ?_ | with_reducible refine x_tB ?_ | with_reducible refine x_kB ?_ | with_reducible refine x_and ?_ | with_reducible refine x_or ?_ | with_reducible refine x_not ?_ | with_reducible refine k_T ?_ | with_reducible refine k_F ?_ | with_reducible refine k_not ?_ | walk_at "go2")
local macro_rules | `(tactic| walk_at "go2") => `(tactic| first | ((with_reducible apply x_setF); (walk_at "hp"); assumption; assumption; exact Nat.le_of_ble_eq_true rfl; exact rfl; intro _ _ _) | ((with_reducible apply x_append); (walk_at "hp"); (first | omega | (simp; omega)); intro _ _ _) | ((with_reducible apply x_setL); (walk_at "hp"); exact rfl; intro _ _ _) | with_reducible refine x_addI ?_ | with_reducible refine x_cmp ?_ | with_reducible refine x_subI ?_ | with_reducible refine x_eqI ?_ | with_reducible refine x_eqS ?_ | with_reducible refine x_neI ?_ | with_reducible refine x_neS ?_ | with_reducible refine x_isNo ?_ | with_reducible refine x_notNo ?_ | ((with_reducible apply x_modI); (first | omega | decide)) | ((with_reducible apply x_divI); (first | omega | decide); (first | omega | decide)) | ((with_reducible apply x_mulI); (first | exact .inl ⟨by omega, by omega⟩ | exact .inr ⟨by decide, by decide⟩ | exact .inr ⟨by omega, by omega⟩)) | ((with_reducible apply x_powI); exact ⟨by decide, by decide, by decide⟩) | ((with_reducible apply x_ixT); (walk_at "hp"); exact rfl) | ((with_reducible apply x_ixL); (walk_at "sq"); exact rfl) | ((with_reducible apply x_lenL); (walk_at "sq")) | ((with_reducible apply x_newT); exact Nat.le_of_ble_eq_true rfl; intro _ _ _ _ _) | ((with_reducible apply x_newL); exact Nat.le_of_ble_eq_true rfl; intro _ _ _ _ _) | with_reducible refine x_for ?_ | with_reducible refine x_iL ?_ | with_reducible refine x_iR1 ?_ | with_reducible refine x_iR2 ?_ | with_reducible refine x_iE ?_ | ((with_reducible apply x_kIL); (walk_at "sq")) | ((with_reducible apply x_kE); (walk_at "sq")) | with_reducible refine x_lc ?_ | with_reducible refine x_yes ?_ | ((with_reducible apply x_wp); exact rfl))
local macro_rules | `(tactic| walk_at "go") => `(tactic| (walk_at "go1"; repeat walk_at "go1"))
local macro_rules | `(tactic| walk_at "fr") => `(tactic| first | assumption | exact Kp.free (by assumption) _ (by walk_at "fr"))
local macro_rules | `(tactic| walk_at "lk") => `(tactic| first | exact lf_p _ _ | exact lf_d _ _ | exact lf_no _ _ (by decide +kernel) (by decide +kernel))
local macro_rules | `(tactic| walk_at "go1") => `(tactic| first | with_reducible refine x_rs ?_ | ((with_reducible apply x_niS); (walk_at "sq")) | ((with_reducible apply x_inS); (walk_at "sq")))
local macro_rules | `(tactic| walk_at "go1") => `(tactic| first | with_reducible refine x_xvE ?_ | ((with_reducible apply x_isV); (walk_at "hp"); (walk_at "hp"); assumption; (first | exact ClsV.own _ | exact ClsV.ty _); assumption) | ((with_reducible apply x_xv); (walk_at "hp"); (walk_at "hp"); assumption; assumption) | ((with_reducible apply x_addL); (walk_at "hp"); (walk_at "hp"); exact Nat.le_of_ble_eq_true rfl; intro _ _ _ _ _))
/-! ### names near -/
structure Nq (x : Str) : Prop where
  ok : PyData.strOk x = true
  sh : x.length ≤ 100
theorem NmOk.q {x : Str} (h : NmOk x) : Nq x := ⟨h.ok, Nat.le_trans h.sh (by decide)⟩
theorem nq_cut {x : Str} {lo hi : Option Int} (h : Nq x) : Nq (cutS x lo hi) := by
  refine ⟨?_, ?_⟩
  · rw [strOk_iff]
    intro c hc
    exact strOk_iff.mp h.ok c (List.mem_of_mem_drop (List.mem_of_mem_take hc))
  · refine Nat.le_trans ?_ h.sh
    rw [len_cps, len_cps]
    show ((x.cps.toList.drop _).take _).length ≤ _
    rw [List.length_take, List.length_drop]
    omega
theorem nq_q : Nq "q" := ⟨by decide +kernel, by decide +kernel⟩
theorem len_q : ("q" : Str).length = 1 := by decide +kernel
theorem cutV_to' {xs : List V} {i : Nat} : cutV xs none (some (i : Int)) = xs.take i := by
  have e : HT.sIx xs.length xs.length (some (i : Int)) = min i xs.length := HT.sIx_nat ..
  show (xs.drop (HT.sIx xs.length 0 none)).take (HT.sIx xs.length xs.length (some (i : Int)) - HT.sIx xs.length 0 none) = xs.take i
  rw [e, HT.sIx_none, List.drop_zero, Nat.sub_zero]
  by_cases h : i ≤ xs.length
  · rw [Nat.min_eq_left h]
  · rw [Nat.min_eq_right (by omega), List.take_length, List.take_of_length_le (by omega)]
section
variable {K : PySem.W.Frag}
/-- [name + "q" for name in stand[:4]] -/
theorem lc_q {p : Addr} {xs : List Str} {j : Nat} {σ : L2.St} {Q : VK} {H : Hp} (e : H p = some (.lst (xs.map V.str))) (hq : ∀ x ∈ xs, NmOk x) (hz : xs.length ≤ 1000) (hj : j < σ.length)
    (hd : ∀ D (ys : List Str) H', Kp [] H H' → H D = none → H' D = some (.lst (ys.map V.str)) → ys.length ≤ xs.length → (∀ y ∈ ys, Nq y) → Q (.ref D) H') : kLc (Itl K p) (gName j) tYes (tOp rAddA (tVar j) (tC (.str "q"))) [j] σ Q H := by
  refine k_lc (walk_list (K := K) (a := p) (xs := xs.map V.str)) [] (fun i ys H' => ∃ zs : List Str, ys = zs.map V.str ∧ ∀ z ∈ zs, Nq z) (fun _ _ _ _ _ => ⟨[], rfl, fun _ z => nomatch z⟩) (fun i ys H' _ k _ => SqL.of (k.get e List.not_mem_nil)) ?_ ?_
  · rintro i x ys D H1 H2 hi' hD k d l ⟨zs, rfl, hz'⟩ ⟨rfl, hx⟩
    obtain ⟨c, hc, rfl⟩ := Option.map_eq_some_iff.mp (List.getElem?_map .. ▸ hx)
    have hj' : j < (wipe σ [j]).length := by rw [wipe_length]; exact hj
    have hcq := hq c (List.mem_of_getElem? hc)
    refine x_name (x_wp ?_ ?_)
    · show ((wipe σ [j]).set j _).set j none = wipe σ [j]
      rw [List.set_set]
      show (σ.set j none).set j none = σ.set j none
      rw [List.set_set]
    · refine x_yes (k_T (x_op (x_var (v := .str c) (by rw [List.getElem?_set_self hj']) ?_)))
      refine x_c (x_addS (by rw [len_q]; have := hcq.sh; omega) ?_)
      refine x_el hD hi' (by rw [List.length_map]; omega) l k d fun H6 _ _ => ⟨zs ++ [c ++ "q"], by rw [List.map_append]; rfl, fun y hy => ?_⟩
      rcases List.mem_append.mp hy with hy | hy
      · exact hz' y hy
      · rw [List.mem_singleton.mp hy]
        exact ⟨ok_app hcq.ok nq_q.ok, by rw [len_app, len_q]; have := hcq.sh; omega⟩
  · rintro D ys H' hD k d l ⟨zs, rfl, hz'⟩
    refine hd D zs H' k hD d ?_ hz'
    rw [List.length_map, List.length_map] at l
    exact l
/-- [name[:-1] for name in stand[:4] if len(name) > 1] -/
theorem lc_cut {p : Addr} {xs : List Str} {j : Nat} {σ : L2.St} {Q : VK} {H : Hp} (e : H p = some (.lst (xs.map V.str))) (hq : ∀ x ∈ xs, NmOk x) (hz : xs.length ≤ 1000) (hj : j < σ.length)
    (hd : ∀ D (ys : List Str) H', Kp [] H H' → H D = none → H' D = some (.lst (ys.map V.str)) → ys.length ≤ xs.length → (∀ y ∈ ys, Nq y) → Q (.ref D) H') :
    kLc (Itl K p) (gName j) (tTest (tOp (rCmpI fun i j => decide (j < i)) (tCB (rLenA K) (tCons (tVar j) tNil)) (tC (.int 1)))) (tSl (rSlA K) (tVar j) tNoPart (tPart (tUn (rU fun i => .int (-i)) (tC (.int 1))))) [j] σ Q H := by
  refine k_lc (walk_list (K := K) (a := p) (xs := xs.map V.str)) [] (fun i ys H' => ∃ zs : List Str, ys = zs.map V.str ∧ ∀ z ∈ zs, Nq z) (fun _ _ _ _ _ => ⟨[], rfl, fun _ z => nomatch z⟩) (fun i ys H' _ k _ => SqL.of (k.get e List.not_mem_nil)) ?_ ?_
  · rintro i x ys D H1 H2 hi' hD k d l ⟨zs, rfl, hz'⟩ ⟨rfl, hx⟩
    obtain ⟨c, hc, rfl⟩ := Option.map_eq_some_iff.mp (List.getElem?_map .. ▸ hx)
    have hj' : j < (wipe σ [j]).length := by rw [wipe_length]; exact hj
    have hcq := hq c (List.mem_of_getElem? hc)
    have hcl : c.length ≤ 100000 := Nat.le_trans hcq.sh (by decide)
    refine x_name (x_wp ?_ ?_)
    · show ((wipe σ [j]).set j _).set j none = wipe σ [j]
      rw [List.set_set]
      show (σ.set j none).set j none = σ.set j none
      rw [List.set_set]
    · refine x_test (x_op (x_cb (x_cons (x_var (v := .str c) (by rw [List.getElem?_set_self hj']) (x_nil (x_lenS hcl (x_c (x_cmp (x_kB ?_)))))))))
      refine k_dec (fun _ => ?_) (fun _ => ?_)
      · refine x_sl (x_var (v := .str c) (by rw [List.getElem?_set_self hj']) (x_nop (x_part (x_un (x_c ⟨1, rfl, x_kP (x_slS hcl ?_)⟩)))))
        refine x_el hD hi' (by rw [List.length_map]; omega) l k d fun H6 _ _ => ⟨zs ++ [cutS c none (some (-1))], by rw [List.map_append]; rfl, fun y hy => ?_⟩
        rcases List.mem_append.mp hy with hy | hy
        · exact hz' y hy
        · rw [List.mem_singleton.mp hy]
          exact nq_cut hcq.q
      · exact x_sk hi' l k d ⟨zs, rfl, hz'⟩
  · rintro D ys H' hD k d l ⟨zs, rfl, hz'⟩
    refine hd D zs H' k hD d ?_ hz'
    rw [List.length_map, List.length_map] at l
    exact l
/-- [one for one in .. if one not in stand and len(one) < 17] -/
theorem lc_far {p S : Addr} {xs ss : List Str} {j sj : Nat} {σ : L2.St} {Q : VK} {H : Hp} (e : H p = some (.lst (xs.map V.str))) (es : H S = some (.lst (ss.map V.str))) (hq : ∀ x ∈ xs, Nq x) (hz : xs.length ≤ 1000) (hj : j < σ.length) (hne : j ≠ sj) (hs : σ[sj]? = some (some (.ref S)))
    (hd : ∀ D (ys : List Str) H', Kp [] H H' → H D = none → H' D = some (.lst (ys.map V.str)) → ys.length ≤ xs.length → (∀ y ∈ ys, NmOk y ∧ y ∉ ss) → Q (.ref D) H') :
    kLc (Itl K p) (gName j) (tAnd (tTest (tOp (rIn K true) (tVar j) (tVar sj))) (tTest (tOp (rCmpI fun i j => decide (i < j)) (tCB (rLenA K) (tCons (tVar j) tNil)) (tC (.int 17))))) (tVar j) [j] σ Q H := by
  refine k_lc (walk_list (K := K) (a := p) (xs := xs.map V.str)) [] (fun i ys H' => ∃ zs : List Str, ys = zs.map V.str ∧ ∀ z ∈ zs, NmOk z ∧ z ∉ ss) (fun _ _ _ _ _ => ⟨[], rfl, fun _ z => nomatch z⟩) (fun i ys H' _ k _ => SqL.of (k.get e List.not_mem_nil)) ?_ ?_
  · rintro i x ys D H1 H2 hi' hD k d l ⟨zs, rfl, hz'⟩ ⟨rfl, hx⟩
    obtain ⟨c, hc, rfl⟩ := Option.map_eq_some_iff.mp (List.getElem?_map .. ▸ hx)
    have hj' : j < (wipe σ [j]).length := by rw [wipe_length]; exact hj
    have hcq := hq c (List.mem_of_getElem? hc)
    have hcl : c.length ≤ 100000 := Nat.le_trans hcq.sh (by decide)
    have hsj : ((wipe σ [j]).set j (some (.str c)))[sj]? = some (some (.ref S)) := by
      rw [List.getElem?_set_ne hne]
      show (σ.set j none)[sj]? = _
      rw [List.getElem?_set_ne hne, hs]
    refine x_name (x_wp ?_ ?_)
    · show ((wipe σ [j]).set j _).set j none = wipe σ [j]
      rw [List.set_set]
      show (σ.set j none).set j none = σ.set j none
      rw [List.set_set]
    · refine x_and (x_test (x_op (x_var (v := .str c) (by rw [List.getElem?_set_self hj']) (x_var hsj (x_niS (SqL.of (k.get es List.not_mem_nil)) (x_kB ?_))))))
      refine k_not (k_dec (fun _ => ?_) (fun hno => ?_))
      · exact k_F (x_sk hi' l k d ⟨zs, rfl, hz'⟩)
      · refine x_test (x_op (x_cb (x_cons (x_var (v := .str c) (by rw [List.getElem?_set_self hj']) (x_nil (x_lenS hcl (x_c (x_cmp (x_kB ?_)))))))))
        refine k_dec (fun hlt => ?_) (fun _ => ?_)
        · refine x_var (v := .str c) (by rw [List.getElem?_set_self hj']) ?_
          refine x_el hD hi' (by rw [List.length_map]; omega) l k d fun H6 _ _ => ⟨zs ++ [c], by rw [List.map_append]; rfl, fun y hy => ?_⟩
          rcases List.mem_append.mp hy with hy | hy
          · exact hz' y hy
          · rw [List.mem_singleton.mp hy]
            exact ⟨⟨hcq.ok, by omega⟩, hno⟩
        · exact x_sk hi' l k d ⟨zs, rfl, hz'⟩
  · rintro D ys H' hD k d l ⟨zs, rfl, hz'⟩
    refine hd D zs H' k hD d ?_ hz'
    rw [List.length_map, List.length_map] at l
    exact l
end
end WM
set_option Elab.async false
set_option linter.all false
set_option maxRecDepth 100000
set_option maxHeartbeats 2000000
namespace WM
open PySem PySem.Spec PyProof.Rows L2
local macro_rules | `(tactic| walk_at "ne") => `(tactic| first | assumption | exact Ne.symm (by assumption) | exact ne_fresh (by assumption) (by walk_at "hp") | exact (ne_fresh (by assumption) (by walk_at "hp")).symm | exact ne_kind (by walk_at "hp") (by walk_at "hp") (by intro z; cases z))
local macro_rules | `(tactic| walk_at "ni") => `(tactic| first | exact List.not_mem_nil | assumption | exact ni1 (by walk_at "ne") | exact ni2 (by walk_at "ne") (by walk_at "ne") | exact ni3 (by walk_at "ne") (by walk_at "ne") (by walk_at "ne"))
local macro_rules | `(tactic| walk_at "hp") => `(tactic| first | assumption | exact upd_same | (apply upd_getN; (assumption); (walk_at "hp")) | (apply Kp.tup; (assumption); (walk_at "hp")) | (apply Kp.get; (assumption); (walk_at "hp"); (walk_at "ni")))
local macro_rules | `(tactic| walk_at "sq") => `(tactic| first | assumption | exact SqL.of (by walk_at "hp") | (apply Kp.sqL; (assumption); (walk_at "sq"); (walk_at "ni")))
local macro_rules | `(tactic| walk_at "kp") => `(tactic| first | exact Kp.refl _ _ | assumption | exact Kp.nil (by assumption) | (refine' Kp.step (by assumption) ?_ (by first | exact fun _ z => z | exact fun _ z => nomatch z | simp); walk_at "kp"))
local macro_rules | `(tactic| walk_at "tp") => `(tactic| first | assumption | exact Tp.non | exact Tp.bl _ | exact Tp.int _ | exact Tp.str _ | (apply Tp.tup; (walk_at "hp"); (walk_at "tps")) | (apply Tp.kp; (assumption); (walk_at "tp")))
local macro_rules | `(tactic| walk_at "tps") => `(tactic| first | exact TpAll.nil | (refine TpAll.cons ?_ ?_; (walk_at "tp"); (walk_at "tps")))
local macro_rules | `(tactic| walk_at "lk") => `(tactic| first | assumption | rfl)
local macro_rules | `(tactic| walk_at "go1") => `(tactic| first | with_reducible refine x_seq ?_ | with_reducible refine x_asg ?_ | with_reducible refine x_drop ?_ | with_reducible refine x_ret ?_ | with_reducible refine x_if ?_ | with_reducible refine x_next ?_ | with_reducible refine x_par ?_ | with_reducible refine x_par3 ?_ | with_reducible refine x_two ?_ | with_reducible refine x_three ?_ | with_reducible refine x_sfld ?_ | with_reducible refine x_retN ?_ | with_reducible refine x_brk ?_ | with_reducible refine x_name ?_ | with_reducible refine x_gsub ?_ | with_reducible refine x_gcons ?_ | with_reducible refine x_gnil ?_ | ((with_reducible apply x_gtup); (walk_at "hp"); exact rfl) | ((with_reducible apply x_var); exact rfl) | with_reducible refine x_c ?_ | with_reducible refine x_op ?_ | with_reducible refine x_un ?_ | with_reducible refine x_nil ?_ | with_reducible refine x_cons ?_ | with_reducible refine x_tup ?_ | with_reducible refine x_lst ?_ | with_reducible refine x_fldE ?_ | ((with_reducible apply x_fld); (walk_at "hp"); assumption; assumption; (walk_at "lk")) | with_reducible refine x_cal ?_ | with_reducible refine x_metE ?_ | with_reducible refine x_calS ?_ | with_reducible refine x_metS ?_ | ((with_reducible apply x_met); (walk_at "hp"); (walk_at "lk")) | with_reducible refine x_newI ?_ | with_reducible refine x_cb ?_ | with_reducible refine x_bm ?_ | with_reducible refine x_bm0 ?_ | ((with_reducible apply x_bmL); (walk_at "hp")) | with_reducible refine x_sl ?_ | with_reducible refine x_nop ?_ | with_reducible refine x_part ?_ | with_reducible refine x_kP ?_ | with_reducible refine x_ife ?_ | with_reducible refine x_andV ?_ | with_reducible refine x_orV ?_ | with_reducible refine x_notV ?_ | with_reducible refine x_test ?_ | with_reducible refine x_tB ?_ | with_reducible refine x_kB ?_ | with_reducible refine x_and ?_ | with_reducible refine x_or ?_ | with_reducible refine x_not ?_ | with_reducible refine k_T ?_ | with_reducible refine k_F ?_ | with_reducible refine k_not ?_ | walk_at "go2")
local macro_rules | `(tactic| walk_at "go2") => `(tactic| first | ((with_reducible apply x_setF); (walk_at "hp"); assumption; assumption; exact Nat.le_of_ble_eq_true rfl; exact rfl; intro _ _ _) | ((with_reducible apply x_append); (walk_at "hp"); (first | omega | (simp; omega)); intro _ _ _) | ((with_reducible apply x_setL); (walk_at "hp"); exact rfl; intro _ _ _) | with_reducible refine x_addI ?_ | with_reducible refine x_cmp ?_ | with_reducible refine x_subI ?_ | with_reducible refine x_eqI ?_ | with_reducible refine x_eqS ?_ | with_reducible refine x_neI ?_ | with_reducible refine x_neS ?_ | with_reducible refine x_isNo ?_ | with_reducible refine x_notNo ?_ | ((with_reducible apply x_modI); (first | omega | decide)) | ((with_reducible apply x_divI); (first | omega | decide); (first | omega | decide)) | ((with_reducible apply x_mulI); (first | exact .inl ⟨by omega, by omega⟩ | exact .inr ⟨by decide, by decide⟩ | exact .inr ⟨by omega, by omega⟩)) | ((with_reducible apply x_powI); exact ⟨by decide, by decide, by decide⟩) | ((with_reducible apply x_ixT); (walk_at "hp"); exact rfl) | ((with_reducible apply x_ixL); (walk_at "sq"); exact rfl) | ((with_reducible apply x_lenL); (walk_at "sq")) | ((with_reducible apply x_newT); exact Nat.le_of_ble_eq_true rfl; intro _ _ _ _ _) | ((with_reducible apply x_newL); exact Nat.le_of_ble_eq_true rfl; intro _ _ _ _ _) | with_reducible refine x_for ?_ | with_reducible refine x_iL ?_ | with_reducible refine x_iR1 ?_ | with_reducible refine x_iR2 ?_ | with_reducible refine x_iE ?_ | ((with_reducible apply x_kIL); (walk_at "sq")) | ((with_reducible apply x_kE); (walk_at "sq")) | with_reducible refine x_lc ?_ | with_reducible refine x_yes ?_ | ((with_reducible apply x_wp); exact rfl))
local macro_rules | `(tactic| walk_at "go") => `(tactic| (walk_at "go1"; repeat walk_at "go1"))
local macro_rules | `(tactic| walk_at "fr") => `(tactic| first | assumption | exact Kp.free (by assumption) _ (by walk_at "fr"))
local macro_rules | `(tactic| walk_at "lk") => `(tactic| first | exact lf_p _ _ | exact lf_d _ _ | exact lf_no _ _ (by decide +kernel) (by decide +kernel))
local macro_rules | `(tactic| walk_at "go1") => `(tactic| first | with_reducible refine x_rs ?_ | ((with_reducible apply x_niS); (walk_at "sq")) | ((with_reducible apply x_inS); (walk_at "sq")))
local macro_rules | `(tactic| walk_at "go1") => `(tactic| first | with_reducible refine x_xvE ?_ | ((with_reducible apply x_isV); (walk_at "hp"); (walk_at "hp"); assumption; (first | exact ClsV.own _ | exact ClsV.ty _); assumption) | ((with_reducible apply x_xv); (walk_at "hp"); (walk_at "hp"); assumption; assumption) | ((with_reducible apply x_addL); (walk_at "hp"); (walk_at "hp"); exact Nat.le_of_ble_eq_true rfl; intro _ _ _ _ _))
def ItAt (H : Hp) (ps : List Pc) (T : Addr) : Prop := ∃ (a t : Addr) (d : Dd) (rf : Rf), H T = some (.tup [.ref a, .ref t]) ∧ DdAt H a d ∧ H t = some (.tup [.str rf.w, rf.v d]) ∧ Refs ps d rf ∧ PyData.strOk d.nm = true
theorem ItAt.kp {fp : List Addr} {H H' : Hp} {ps : List Pc} {T : Addr} (k : Kp fp H H') (h : ItAt H ps T) : ItAt H' ps T := by
  obtain ⟨a, t, d, rf, e, hd, et, r, o⟩ := h
  exact ⟨a, t, d, rf, k.tup e, hd.kp k, k.tup et, r, o⟩
def rf0 (ps : List Pc) : Rf := if ps.length = 30 then .many else .twin
theorem Rf.v_nm {d d' : Dd} (h : d.nm = d'.nm) (rf : Rf) : rf.v d = rf.v d' := by
  cases rf
  · rfl
  · show V.str d.nm = _; rw [h]; rfl
  · show V.str d.nm = _; rw [h]; rfl
theorem rf0_ok {ps : List Pc} {c : Pc} (hz : ps.length ≤ 30) (h : c.nm ∈ ps.map (·.nm)) : Refs ps (.put c) (rf0 ps) := by
  unfold rf0
  by_cases h30 : ps.length = 30
  · rw [if_pos h30]
    show 30 ≤ ps.length
    omega
  · rw [if_neg h30]
    exact ⟨by omega, h⟩
section
variable {P : Program} {w : World} {K : PySem.W.Frag} {mg : Str → Option Value} {base : Heap} {C : Addr}
theorem x_due {ps : List Pc} {c : Pc} {σ : L2.St} {Q : VK} {H : Hp} (h5 : σ[5]? = some (some (.ref c.p))) (hc : PcAt H c)
    (h : ∀ D H', Kp [] H H' → H' D = some (.tup [.str (rf0 ps).w, (rf0 ps).v (.put c)]) → Q (.ref D) H') :
    kIf (decide (((ps.map fun c => V.ref c.p).length : Int) = 30)) (tTup (tCons (tC (.str "many")) (tCons (tC (.int 30)) tNil)) σ H Q) (tTup (tCons (tC (.str "twin")) (tCons (tOp (rIx K) (tVar 5) (tC (.int 0))) tNil)) σ H Q) := by
  have hlen : (ps.map fun c => V.ref c.p).length = ps.length := List.length_map ..
  obtain ⟨y1, y2, ht⟩ := hc.tup
  refine k_dec (fun e => ?_) (fun e => ?_)
  · walk_at "go"
    rename_i D H1 k1 n1 e1
    refine h D H1 k1 ?_
    rw [e1]
    unfold rf0
    rw [if_pos (by omega)]
    rfl
  · refine x_tup (x_cons (x_c (x_cons (x_op (x_var h5 (x_c (x_ixT ht rfl (x_nil ?_))))))))
    walk_at "go"
    rename_i D H1 k1 n1 e1
    refine h D H1 k1 ?_
    rw [e1]
    unfold rf0
    rw [if_neg (by omega)]
    rfl
def spRefd (K : PySem.W.Frag) : Sp := fun vs H Q _ => ∃ (pn nl r : Addr) (ns : List Str) (ps : List Pc), vs = [.ref pn, .ref nl, .ref r] ∧ Pen K H pn ∧ H nl = some (.lst (ns.map V.str)) ∧ ns.length ≤ 100 ∧ (∀ x ∈ ns, NmOk x) ∧ Rows H r ps ∧ ps.length ≤ 30 ∧ (∀ c ∈ ps, NmOk c.nm) ∧
  ∀ p (Ts : List Addr) H', Kp [pn] H H' → Pen K H' pn → H p = none → H' p = some (.lst (Ts.map V.ref)) → Ts.length ≤ 10000 → (∀ T ∈ Ts, ItAt H' ps T) → Q (.ref p) H'
theorem Pen.neT {H : Hp} {pn b : Addr} {l : List Addr} (h : Pen K H pn) (e : H b = some (.lst (l.map V.ref))) : b ≠ pn := h.neq e fun x hx z => by
  obtain ⟨c, _, rfl⟩ := List.mem_map.mp hx
  exact fun q => nomatch q
abbrev s_e_refused : Stmt := top 27
theorem sc_e_refused : FnScope ["pen", "names", "rows", "found", "stand", "piece", "due", "near", "name", "one"] ["pen", "names", "rows"] (defScope s_e_refused) := ⟨rfl, rfl, rfl, by decide +kernel, rfl, by decide +kernel, by decide +kernel⟩
theorem D_refused (Z : Blt mg) (D_e_piece : Def P w K mg base CX0 "_law_e_piece" 3 (spPiece K)) (D : DefAt K mg "_law_e_refused" s_e_refused ["pen", "names", "rows"]) : Def P w K mg base CX0 "_law_e_refused" 4 (spRefd K) := by
  refine D.ok sc_e_refused (fun vs H Q E h => by obtain ⟨pn, nl, r, ns, ps, rfl, _⟩ := h; rfl) fun f cdv A outer s H vs Q E hr h => ⟨_, (pss_cons (ps_set (i := 3) sc_e_refused.nd rfl (Or.inl rfl) (pe_lst pa_nil)) (pss_cons (ps_set (i := 4) sc_e_refused.nd rfl (Or.inr rfl) (pe_lc (own := [("piece", 5)]) (g := gName 5) rfl sc_e_refused.nd (listIt (K := K) (pv 2)) (blkOk_by (own := [("piece", 5)]) (N := ["pen", "names", "rows", "found", "stand", "piece", "due", "near", "name", "one"]) (sc := defScope s_e_refused) (by decide +kernel)) (fun _ _ _ _ _ => (pg_name (i := 5) sc_e_refused.nd rfl (Or.inl rfl))) (fun _ _ _ _ _ => pts_nil) (fun _ _ _ _ _ => (pe_ix (ixK (K := K)) (pv 5) pe_int (fun _ _ => rfl))))) (pss_cons (ps_for PassesOwn.never rfl (listIt (K := K) (pe_slice (slK (K := K)) (pv 2) po_none (po_some pe_int))) (pg_name (i := 5) sc_e_refused.nd rfl (Or.inl rfl)) (pss_cons (ps_set (i := 6) sc_e_refused.nd rfl (Or.inl rfl) (pe_ifExp (pt_cmpR (eqK (K := K) hr.units) (pe_callB (lenK (K := K)) (by rfl) Z.len PySem.boot_len (pa_cons (pv 2) pa_nil)) pe_int (nomark _)) (pe_tup (pa_cons pe_str (pa_cons pe_int pa_nil))) (pe_tup (pa_cons pe_str (pa_cons (pe_ix (ixK (K := K)) (pv 5) pe_int (fun _ _ => rfl)) pa_nil))))) (pss_one (ps_set (i := 3) sc_e_refused.nd rfl (Or.inl rfl) (pe_op op_addA (pv 3) (pe_lst (pa_cons (pe_tup (pa_cons (pe_tup (pa_cons pe_str (pa_cons (pv 5) pa_nil))) (pa_cons (pv 6) pa_nil))) (pa_cons (pe_tup (pa_cons (pe_tup (pa_cons pe_str (pa_cons (pe_def D_e_piece (hr.mono (by decide)) pass0 (pa_cons (pv 0) (pa_cons (pe_ix (ixK (K := K)) (pv 5) pe_int (fun _ _ => rfl)) pa_nil))) pa_nil))) (pa_cons (pv 6) pa_nil))) pa_nil)))))))) (pss_cons (ps_set (i := 7) sc_e_refused.nd rfl (Or.inl rfl) (pe_op op_addA (pe_lc (own := [("name", 8)]) (g := gName 8) rfl sc_e_refused.nd (listIt (K := K) (pe_slice (slK (K := K)) (pv 4) po_none (po_some pe_int))) (blkOk_by (own := [("name", 8)]) (N := ["pen", "names", "rows", "found", "stand", "piece", "due", "near", "name", "one"]) (sc := defScope s_e_refused) (by decide +kernel)) (fun _ _ _ _ _ => (pg_name (i := 8) sc_e_refused.nd rfl (Or.inl rfl))) (fun _ _ _ _ _ => pts_nil) (fun _ _ _ _ _ => (pe_op op_addA (pv 8) pe_str))) (pe_lc (own := [("name", 8)]) (g := gName 8) rfl sc_e_refused.nd (listIt (K := K) (pe_slice (slK (K := K)) (pv 4) po_none (po_some pe_int))) (blkOk_by (own := [("name", 8)]) (N := ["pen", "names", "rows", "found", "stand", "piece", "due", "near", "name", "one"]) (sc := defScope s_e_refused) (by decide +kernel)) (fun _ _ _ _ _ => (pg_name (i := 8) sc_e_refused.nd rfl (Or.inl rfl))) (fun _ _ _ _ _ => (pts_one (pt_cmpR op_gtI (pe_callB (lenK (K := K)) (by rfl) Z.len PySem.boot_len (pa_cons (pv 8) pa_nil)) pe_int (nomark _)))) (fun _ _ _ _ _ => (pe_slice (slK (K := K)) (pv 8) po_none (po_some (pe_un un_neg pe_int))))))) (pss_cons (ps_for PassesOwn.never rfl (listIt (K := K) (pe_lc (own := [("one", 9)]) (g := gName 9) rfl sc_e_refused.nd (listIt (K := K) (pe_op op_addA (pe_op op_addA (pv 1) (pv 7)) (pe_lst (pa_cons pe_str pa_nil)))) (blkOk_by (own := [("one", 9)]) (N := ["pen", "names", "rows", "found", "stand", "piece", "due", "near", "name", "one"]) (sc := defScope s_e_refused) (by decide +kernel)) (fun _ _ _ _ _ => (pg_name (i := 9) sc_e_refused.nd rfl (Or.inl rfl))) (fun _ _ _ _ _ => (pts_one (PW.pt (pw_and (pt_cmpR (niK (K := K)) (pv 9) (pv 4) (by rfl)) (pw_and1 (pt_cmpR op_ltI (pe_callB (lenK (K := K)) (by rfl) Z.len PySem.boot_len (pa_cons (pv 9) pa_nil)) pe_int (nomark _))))))) (fun _ _ _ _ _ => (pv 9)))) (pg_name (i := 8) sc_e_refused.nd rfl (Or.inl rfl)) (pss_cons (ps_set (i := 3) sc_e_refused.nd rfl (Or.inl rfl) (pe_op op_addA (pv 3) (pe_lst (pa_cons (pe_tup (pa_cons (pe_tup (pa_cons pe_str (pa_cons (pe_def D_e_piece (hr.mono (by decide)) pass0 (pa_cons (pv 0) (pa_cons (pv 8) pa_nil))) pa_nil))) (pa_cons (pe_tup (pa_cons pe_str (pa_cons (pv 8) pa_nil))) pa_nil))) (pa_cons (pe_tup (pa_cons (pe_tup (pa_cons pe_str (pa_cons (pv 8) pa_nil))) (pa_cons (pe_tup (pa_cons pe_str (pa_cons (pv 8) pa_nil))) pa_nil))) pa_nil))))) (pss_one (ps_if (pt_cmpR (eqK (K := K) hr.units) (pe_callB (lenK (K := K)) (by rfl) Z.len PySem.boot_len (pa_cons (pv 2) pa_nil)) pe_int (nomark _)) (pss_one (ps_expr (bmK (K := K) PySem.F.plainAttrs_list PySem.F.slot_list_append PySem.F.type_list_append mt_append (pv 3) (pa_cons (pe_tup (pa_cons (pe_tup (pa_cons pe_str (pa_cons (pe_def D_e_piece (hr.mono (by decide)) pass0 (pa_cons (pv 0) (pa_cons (pv 8) pa_nil))) pa_nil))) (pa_cons (pe_tup (pa_cons pe_str (pa_cons pe_int pa_nil))) pa_nil))) pa_nil)))) pss_nil)))) (pss_one (ps_ret (pv 3)))))))), ?_⟩
  obtain ⟨pn, nl, r, ns, ps, rfl, hp, hn, hnz, nok, R, hz, pok, k⟩ := h
  have hR := R.lst
  have hlen : (ps.map fun c => V.ref c.p).length = ps.length := List.length_map ..
  have ne1 := hp.neS hn
  have ne2 := hp.neP hR
  refine x_body ?_
  walk_at "go"
  rename_i F H1 k1 n1 e1
  refine lc_nms (R.kp k1 List.not_mem_nil) (by omega) (Nat.le_of_ble_eq_true rfl) fun S H2 k2 n2 e2 => ?_
  have hp2 := (hp.kp0 k1).kp0 k2
  have neS := hp2.neS e2
  walk_at "go"
  refine x_slL (xs := ps.map fun c => V.ref c.p) (by walk_at "hp") fun R6 H3 k3 n3 e3 => ?_
  have e3 : H3 R6 = some (.lst ((ps.map fun c => V.ref c.p).take 6)) := by rw [e3]; exact congrArg (fun x => some (HO.lst x)) (cutV_to' (i := 6))
  have hp3 := hp2.kp0 k3
  have neR6 : R6 ≠ pn := hp3.neP (l := ps.take 6) (f := fun c => c.p) (by rw [e3, List.map_take])
  have k03 : Kp [] H H3 := (k1.trans k2).trans k3
  have eS3 : H3 S = some (.lst ((ps.map (·.nm)).map V.str)) := k3.get e2 List.not_mem_nil
  have eF3 : H3 F = some (.lst []) := (k2.trans k3).get e1 List.not_mem_nil
  have hl6 : ((ps.map fun c => V.ref c.p).take 6).length ≤ 6 := by rw [List.length_take]; omega
  walk_at "go"
  refine k_forL (fun i σ H' => ∃ (F : Addr) (v5 v6 : Option V) (Ts : List Addr), σ = [some (.ref pn), some (.ref nl), some (.ref r), some (.ref F), some (.ref S), v5, v6, none, none, none] ∧ Kp [pn] H3 H' ∧ Pen K H' pn ∧ H F = none ∧ H' F = some (.lst (Ts.map V.ref)) ∧ Ts.length ≤ 2 * i ∧ ∀ T ∈ Ts, ItAt H' ps T)
    ⟨F, none, none, [], rfl, Kp.refl _ _, hp3, n1, eF3, Nat.zero_le _, fun _ z => nomatch z⟩ (fun i σ H' _ ⟨_, _, _, _, _, k, _⟩ => SqL.of (k.get e3 (ni1 neR6))) ?_ ?_
  · rintro i x σ H4 hx ⟨F, v5, v6, Ts, rfl, k4, hp4, nF, eF, lT, hT⟩
    have hi6 : i < 6 := by
      have := (List.getElem?_eq_some_iff.mp hx).1
      omega
    rw [List.getElem?_take_of_lt hi6] at hx
    obtain ⟨c, hc, rfl⟩ := Option.map_eq_some_iff.mp (List.getElem?_map .. ▸ hx)
    have hcm := List.mem_of_getElem? hc
    have k04 : Kp [pn] H H4 := k03.nil.trans k4
    have hc4 := (R.ok c hcm).kp k04
    have hmem : c.nm ∈ ps.map (·.nm) := List.mem_map.mpr ⟨c, hcm, rfl⟩
    have hR4 : H4 r = some (.lst (ps.map fun c => V.ref c.p)) := k04.get hR (ni1 ne2)
    walk_at "go"
    refine x_due rfl hc4 fun D H5 k5 e5 => ?_
    have hp5 := hp4.kp0 k5
    obtain ⟨y1, y2, ht5⟩ := (hc4.kp k5).tup
    walk_at "go"
    rename_i a1 H6 k6 n6 e6 T1 H7 k7 n7 e7
    have hp7 := (hp5.kp0 k6).kp0 k7
    refine ⟨pn, c.nm, rfl, hp7, pok c hcm, fun c2 H8 ec k8 hp8 hc8 => ?_⟩
    walk_at "go"
    rename_i a2 H9 k9 n9 e9 T2 H10 k10 n10 e10 L H11 k11 n11 e11
    have neF := hp4.neT eF
    have k47 : Kp [pn] H4 H7 := (((Kp.refl [pn] H4).trans k5.nil).trans k6.nil).trans k7.nil
    have k411 : Kp [pn] H4 H11 := (((k47.trans k8).trans k9.nil).trans k10.nil).trans k11.nil
    refine x_addL (xs := Ts.map V.ref) (k411.get eF (ni1 neF)) e11 (by rw [List.length_map]; simp only [List.length_cons, List.length_nil]; omega) fun F2 H12 k12 n12 e12 => ?_
    walk_at "go"
    have k412 := k411.trans k12.nil
    have hp12 := (((hp8.kp0 k9).kp0 k10).kp0 k11).kp0 k12
    refine ⟨F2, _, _, Ts ++ [T1, T2], rfl, k4.trans k412, hp12, (k04.trans k411).free _ n12, by rw [e12, List.map_append]; rfl, by rw [List.length_append]; simp only [List.length_cons, List.length_nil]; omega, fun T hTm => ?_⟩
    rcases List.mem_append.mp hTm with hTm | hTm
    · exact (hT T hTm).kp k412
    · simp only [List.mem_cons, List.not_mem_nil, or_false] at hTm
      rcases hTm with rfl | rfl
      · have hc12 := hc4.kp k412
        clear k412 k411 k47
        refine ⟨a1, D, .put c, rf0 ps, by walk_at "hp", ⟨by walk_at "hp", fun x hx => ?_⟩, by walk_at "hp", rf0_ok hz hmem, (pok c hcm).ok⟩
        rw [List.mem_singleton.mp hx]
        exact hc12
      · clear k412 k411 k47
        refine ⟨a2, D, .put c2, rf0 ps, by walk_at "hp", ⟨by walk_at "hp", fun x hx => ?_⟩, ?_, rf0_ok hz (by rw [ec]; exact hmem), by show PyData.strOk c2.nm = true; rw [ec]; exact (pok c hcm).ok⟩
        · rw [List.mem_singleton.mp hx]
          exact (((hc8.kp k9).kp k10).kp k11).kp k12
        · rw [Rf.v_nm (d := .put c2) (d' := .put c) ec]
          walk_at "hp"
  · rintro σ H4 ⟨F, v5, v6, Ts, rfl, k4, hp4, nF, eF, lT, hT⟩
    have k04 : Kp [pn] H H4 := k03.nil.trans k4
    have eS4 := k4.get eS3 (ni1 neS)
    have hsl : ((ps.map (·.nm)).map V.str).length = ps.length := by rw [List.length_map, List.length_map]
    have cut4 : cutV ((ps.map (·.nm)).map V.str) none (some 4) = ((ps.map (·.nm)).take 4).map V.str := by rw [List.map_take]; exact cutV_to' (i := 4)
    have ok4 : ∀ x ∈ (ps.map (·.nm)).take 4, NmOk x := fun x hx => by
      obtain ⟨c, hc, rfl⟩ := List.mem_map.mp (List.mem_of_mem_take hx)
      exact pok c hc
    have l4 : ((ps.map (·.nm)).take 4).length ≤ 4 := by rw [List.length_take]; omega
    walk_at "go"
    refine x_slL eS4 fun A4 H5 k5 n5 e5 => ?_
    rw [cut4] at e5
    walk_at "go"
    refine lc_q e5 ok4 (by omega) (Nat.le_of_ble_eq_true rfl) fun B4 ys H6 k6 n6 e6 ly hy => ?_
    walk_at "go"
    refine x_slL (by walk_at "hp") fun A5 H7 k7 n7 e7 => ?_
    rw [cut4] at e7
    walk_at "go"
    refine lc_cut e7 ok4 (by omega) (Nat.le_of_ble_eq_true rfl) fun B5 zs H8 k8 n8 e8 lz hz5 => ?_
    refine x_addL (xs := ys.map V.str) (by walk_at "hp") e8 (by rw [List.length_map, List.length_map]; omega) fun near H9 k9 n9 e9 => ?_
    rw [← List.map_append] at e9
    have k49 : Kp [pn] H4 H9 := ((((Kp.refl [pn] H4).trans k5.nil).trans k6.nil).trans k7.nil).trans (k8.nil.trans k9.nil)
    have en9 : H9 nl = some (.lst (ns.map V.str)) := (k04.trans k49).get hn (ni1 ne1)
    walk_at "go"
    refine x_addL en9 e9 (by rw [List.length_map, List.length_map, List.length_append]; omega) fun P1 H10 k10 n10 e10 => ?_
    rw [← List.map_append] at e10
    walk_at "go"
    rename_i P2 H11 k11 n11 e11
    refine x_addL (k11.get e10 List.not_mem_nil) e11 (by rw [List.length_map, List.length_append, List.length_append]; simp only [List.length_singleton]; omega) fun P3 H12 k12 n12 e12 => ?_
    have e12 : H12 P3 = some (.lst ((ns ++ (ys ++ zs) ++ [("q" : Str)]).map V.str)) := by rw [e12, List.map_append (l₂ := [("q" : Str)])]; rfl
    have k412 : Kp [pn] H4 H12 := ((k49.trans k10.nil).trans k11.nil).trans k12.nil
    have eS12 : H12 S = some (.lst ((ps.map (·.nm)).map V.str)) := k412.get eS4 (ni1 neS)
    walk_at "go"
    refine lc_far e12 eS12 (fun x hx => ?_) (by simp only [List.length_append, List.length_cons, List.length_nil]; omega) (Nat.le_of_ble_eq_true rfl) (by decide) rfl fun N1 fs H13 k13 n13 e13 lf hf => ?_
    · simp only [List.mem_append, List.mem_singleton] at hx
      rcases hx with (hx | hx | hx) | hx
      · exact (nok x hx).q
      · exact hy x hx
      · exact hz5 x hx
      · rw [hx]
        exact nq_q
    have k413 := k412.trans k13.nil
    have hp13 : Pen K H13 pn := ((((((((hp4.kp0 k5).kp0 k6).kp0 k7).kp0 k8).kp0 k9).kp0 k10).kp0 k11).kp0 k12).kp0 k13
    have neN := hp13.neS e13
    have neF := hp4.neT eF
    simp only [List.length_append, List.length_cons, List.length_nil] at lf
    walk_at "go"
    refine k_forL (fun i σ H' => ∃ (F : Addr) (v8 : Option V) (Ts : List Addr), σ = [some (.ref pn), some (.ref nl), some (.ref r), some (.ref F), some (.ref S), v5, v6, some (.ref near), v8, none] ∧ Kp [pn] H13 H' ∧ Pen K H' pn ∧ H F = none ∧ H' F = some (.lst (Ts.map V.ref)) ∧ Ts.length ≤ 1000 + 3 * i ∧ ∀ T ∈ Ts, ItAt H' ps T)
      ⟨F, _, Ts, rfl, Kp.refl _ _, hp13, nF, k413.get eF (ni1 neF), by omega, fun T h => (hT T h).kp k413⟩ (fun i σ H' _ ⟨_, _, _, _, k, _⟩ => SqL.of (k.get e13 (ni1 neN))) ?_ ?_
    · rintro i x σ H14 hx ⟨F, v8, Ts, rfl, k14, hp14, nF, eF, lT, hT⟩
      have hil : i < fs.length := by
        have := (List.getElem?_eq_some_iff.mp hx).1
        rw [List.length_map] at this
        exact this
      obtain ⟨c, hc, rfl⟩ := Option.map_eq_some_iff.mp (List.getElem?_map .. ▸ hx)
      obtain ⟨cok, cno⟩ := hf c (List.mem_of_getElem? hc)
      have cno' : ∀ o ∈ ps, o.nm ≠ c := fun o ho e => cno (List.mem_map.mpr ⟨o, ho, e⟩)
      have k014 : Kp [pn] H H14 := (k04.trans k413).trans k14
      have neF := hp14.neT eF
      walk_at "go"
      refine ⟨pn, c, rfl, hp14, cok, fun c2 H15 ec k15 hp15 hc15 => ?_⟩
      walk_at "go"
      rename_i a1 H16 k16 n16 e16 t1 H17 k17 n17 e17 T1 H18 k18 n18 e18 a2 H19 k19 n19 e19 t2 H20 k20 n20 e20 T2 H21 k21 n21 e21 L H22 k22 n22 e22
      have k1418 : Kp [pn] H14 H18 := ((k15.trans k16.nil).trans k17.nil).trans k18.nil
      have k1422 : Kp [pn] H14 H22 := (((k1418.trans k19.nil).trans k20.nil).trans k21.nil).trans k22.nil
      refine x_addL (xs := Ts.map V.ref) (k1422.get eF (ni1 neF)) e22 (by rw [List.length_map]; simp only [List.length_cons, List.length_nil]; omega) fun F2 H23 k23 n23 e23 => ?_
      have k1423 := k1422.trans k23.nil
      have hp23 : Pen K H23 pn := (((((((hp15.kp0 k16).kp0 k17).kp0 k18).kp0 k19).kp0 k20).kp0 k21).kp0 k22).kp0 k23
      have hR23 : H23 r = some (.lst (ps.map fun c => V.ref c.p)) := (k014.trans k1423).get hR (ni1 ne2)
      have e23 : H23 F2 = some (.lst ((Ts ++ [T1, T2]).map V.ref)) := by rw [e23, List.map_append]; rfl
      have nF2 : H F2 = none := (k014.trans k1422).free _ n23
      have hT23 : ∀ T ∈ Ts ++ [T1, T2], ItAt H23 ps T := fun T hTm => by
        rcases List.mem_append.mp hTm with hTm | hTm
        · exact (hT T hTm).kp k1423
        · simp only [List.mem_cons, List.not_mem_nil, or_false] at hTm
          clear k1423 k1422 k1418
          rcases hTm with rfl | rfl
          · refine ⟨a1, t1, .exch c2, .piece, by walk_at "hp", ⟨by walk_at "hp", fun x hx => ?_⟩, ?_, ?_, ?_⟩
            · rw [List.mem_singleton.mp hx]
              exact (((((((hc15.kp k16).kp k17).kp k18).kp k19).kp k20).kp k21).kp k22).kp k23
            · show H23 t1 = some (.tup [.str "piece", .str c2.nm])
              rw [ec]
              walk_at "hp"
            · show ∀ o ∈ ps, o.nm ≠ c2.nm
              rw [ec]
              exact cno'
            · show PyData.strOk c2.nm = true
              rw [ec]
              exact cok.ok
          · exact ⟨a2, t2, .take c, .piece, by walk_at "hp", ⟨by walk_at "hp", fun x hx => nomatch hx⟩, by show H23 t2 = some (.tup [.str "piece", .str c]); walk_at "hp", cno', cok.ok⟩
      walk_at "go"
      refine k_dec (fun e30 => ?_) (fun _ => ?_)
      · walk_at "go"
        refine ⟨pn, c, rfl, hp23, cok, fun c3 H24 ec3 k24 hp24 hc24 => ?_⟩
        have neF2 := hp23.neT e23
        walk_at "go"
        rename_i a3 H25 k25 n25 e25 t3 H26 k26 n26 e26 T3 H27 k27 n27 e27 H28 k28 e28
        have h30 : 30 ≤ ps.length := by omega
        have it27 : ItAt H27 ps T3 := ⟨a3, t3, .put c3, .many, by walk_at "hp", ⟨by walk_at "hp", fun x hx => by rw [List.mem_singleton.mp hx]; exact ((hc24.kp k25).kp k26).kp k27⟩, by show H27 t3 = some (.tup [.str "many", .int 30]); walk_at "hp", h30, by show PyData.strOk c3.nm = true; rw [ec3]; exact cok.ok⟩
        have k2327 : Kp [pn] H23 H27 := ((k24.trans k25.nil).trans k26.nil).trans k27.nil
        have e27' := k2327.get e23 (ni1 neF2)
        have k1427 : Kp [pn] H14 H27 := k1423.trans k2327
        have nF14 : H14 F2 = none := k1422.free _ n23
        have k1428 : Kp [pn] H14 H28 := k1427.new k28 fun b hb => by rw [List.mem_singleton.mp hb]; exact nF14
        have hp27 : Pen K H27 pn := ((hp24.kp0 k25).kp0 k26).kp0 k27
        have hp28 : Pen K H28 pn := hp27.kp k28 (ni1 neF2.symm) (one_lst e27')
        refine ⟨F2, _, Ts ++ [T1, T2] ++ [T3], rfl, k14.trans k1428, hp28, nF2, by rw [e28, List.map_append (l₂ := [T3])]; rfl, by simp only [List.length_append, List.length_cons, List.length_nil]; omega, fun T hTm => ?_⟩
        rcases List.mem_append.mp hTm with hTm | hTm
        · exact ((hT23 T hTm).kp k2327).kp k28
        · rw [List.mem_singleton.mp hTm]
          exact it27.kp k28
      · walk_at "go"
        exact ⟨F2, _, Ts ++ [T1, T2], rfl, k14.trans k1423, hp23, nF2, e23, by rw [List.length_append]; simp only [List.length_cons, List.length_nil]; omega, hT23⟩
    · rintro σ H14 ⟨F, v8, Ts, rfl, k14, hp14, nF, eF, lT, hT⟩
      walk_at "go"
      exact k F Ts H14 ((k04.trans k413).trans k14) hp14 nF eF (by rw [List.length_map] at lT; omega) hT
end
end WM
set_option Elab.async false
set_option linter.all false
set_option maxRecDepth 100000
set_option maxHeartbeats 2000000
namespace WM
open PySem PySem.Spec PyProof.Rows L2
/-! ### deeds and their undoing, plainly -/
def Dd.kd : Dd → Kd
  | .put _ => .put | .exch _ => .exch | .take _ => .take
theorem Step.kd {ps qs : List Pc} {e : Dn} : ∀ {d : Dd}, Step ps d qs e → e.k = d.kd
  | .put _, h => h.2.2.2.1
  | .exch _, h => by obtain ⟨i, o, _, _, _, h, _⟩ := h; exact h
  | .take _, h => by obtain ⟨i, o, _, _, _, h, _⟩ := h; exact h
theorem eraseIdx_last {α : Type} (l : List α) (a : α) : (l ++ [a]).eraseIdx l.length = l := by
  rw [List.eraseIdx_append_of_length_le (Nat.le_refl _), Nat.sub_self]
  simp
theorem set_back {α : Type} {l : List α} {i : Nat} {o c : α} (h : l[i]? = some o) : (l.set i c).set i o = l := by
  rw [List.set_set]
  obtain ⟨hi, e⟩ := List.getElem?_eq_some_iff.mp h
  rw [← e]
  exact List.set_getElem_self hi
theorem put_back {α : Type} {l : List α} {i : Nat} {o : α} (h : l[i]? = some o) : l = (l.eraseIdx i).take i ++ [o] ++ (l.eraseIdx i).drop i := by
  obtain ⟨hi, e⟩ := List.getElem?_eq_some_iff.mp h
  have hl : (l.take i).length = i := by rw [List.length_take]; omega
  rw [erase_cut, List.take_append_of_le_length (by omega), List.take_take, Nat.min_self, List.drop_append_of_le_length (by omega), List.drop_take_self, List.nil_append, ← e, ← set_cut l i l[i] hi, List.set_getElem_self]
theorem Step.undo {ps qs : List Pc} {e : Dn} : ∀ {d : Dd}, Step ps d qs e → Undo qs e ps
  | .put c, h => by
    obtain ⟨a, k, t, p⟩ := e
    obtain ⟨_, _, rfl, rfl, rfl, rfl⟩ := h
    refine ⟨?_, (eraseIdx_last ps c).symm⟩
    show ps.length < _
    rw [List.length_append]
    exact Nat.lt_succ_self _
  | .exch c, h => by
    obtain ⟨a, k, t, p⟩ := e
    obtain ⟨i, o, ho, _, rfl, rfl, rfl, rfl⟩ := h
    refine ⟨?_, (set_back ho).symm⟩
    rw [List.length_set]
    exact (List.getElem?_eq_some_iff.mp ho).1
  | .take nm, h => by
    obtain ⟨a, k, t, p⟩ := e
    obtain ⟨i, o, ho, _, rfl, rfl, rfl, rfl⟩ := h
    refine ⟨?_, put_back ho⟩
    have hi : t < ps.length := (List.getElem?_eq_some_iff.mp ho).1
    show t ≤ _
    rw [List.length_eraseIdx_of_lt hi]
    omega
theorem at_nm {ps : List Pc} {i j : Nat} {o c : Pc} (nd : (ps.map (·.nm)).Nodup) (h : ps[i]? = some o) (h' : ps[j]? = some c) (e : o.nm = c.nm) : i = j := by
  have hi : i < (ps.map (·.nm)).length := by rw [List.length_map]; exact (List.getElem?_eq_some_iff.mp h).1
  exact (List.getElem?_inj hi nd).mp (by rw [List.getElem?_map, List.getElem?_map, h, h']; simp [e])
theorem Step.after {ps qs rs : List Pc} {e : Dn} (nd : (ps.map (·.nm)).Nodup) : ∀ {d : Dd}, Step ps d qs e → After ps d rs → rs = qs
  | .put c, h, h' => by rw [h.2.2.1]; exact h'
  | .exch c, h, h' => by
    obtain ⟨i, o, ho, eo, rfl, _⟩ := h
    obtain ⟨j, u, hu, eu, rfl⟩ := h'
    rw [at_nm nd ho hu (eo.trans eu.symm)]
  | .take c, h, h' => by
    obtain ⟨i, o, ho, eo, rfl, _⟩ := h
    obtain ⟨j, u, hu, eu, rfl⟩ := h'
    rw [at_nm nd ho hu (eo.trans eu.symm)]
theorem Step.nd {ps qs : List Pc} {e : Dn} (nd : (ps.map (·.nm)).Nodup) : ∀ {d : Dd}, Step ps d qs e → (qs.map (·.nm)).Nodup
  | .put c, h => by
    obtain ⟨_, hn, rfl, _⟩ := h
    rw [List.map_append, List.nodup_append]
    refine ⟨nd, by simp, fun a ha b hb => ?_⟩
    rw [List.mem_singleton.mp hb]
    rintro rfl
    exact hn ha
  | .exch c, h => by
    obtain ⟨i, o, ho, eo, rfl, _⟩ := h
    have z : (ps.set i c).map (·.nm) = ps.map (·.nm) := by
      rw [List.map_set, ← eo]
      have hi : (ps.map (·.nm))[i]? = some o.nm := by rw [List.getElem?_map, ho]; rfl
      obtain ⟨hi', e'⟩ := List.getElem?_eq_some_iff.mp hi
      rw [← e']
      exact List.set_getElem_self hi'
    rw [z]
    exact nd
  | .take c, h => by
    obtain ⟨i, o, ho, eo, rfl, _⟩ := h
    rw [← erase_map]
    exact nd.sublist (List.eraseIdx_sublist _ _)
theorem Step.ok {ps qs : List Pc} {e : Dn} (ok : ∀ c ∈ ps, NmG c.nm) : ∀ {d : Dd}, NmG d.nm → Step ps d qs e → ∀ c ∈ qs, NmG c.nm
  | .put c, hc, h => by
    obtain ⟨_, hn, rfl, _⟩ := h
    intro x hx
    rcases List.mem_append.mp hx with hx | hx
    · exact ok x hx
    · rw [List.mem_singleton.mp hx]
      exact hc
  | .exch c, hc, h => by
    obtain ⟨i, o, ho, eo, rfl, _⟩ := h
    intro x hx
    rcases List.mem_or_eq_of_mem_set hx with hx | hx
    · exact ok x hx
    · rw [hx]
      exact hc
  | .take c, hc, h => by
    obtain ⟨i, o, ho, eo, rfl, _⟩ := h
    intro x hx
    exact ok x (List.mem_of_mem_eraseIdx hx)
theorem Step.len {ps qs : List Pc} {e : Dn} : ∀ {d : Dd}, Step ps d qs e → qs.length ≤ ps.length + 1
  | .put c, h => by
    obtain ⟨_, hn, rfl, _⟩ := h
    rw [List.length_append]
    exact Nat.le_refl _
  | .exch c, h => by
    obtain ⟨i, o, ho, eo, rfl, _⟩ := h
    rw [List.length_set]
    omega
  | .take c, h => by
    obtain ⟨i, o, ho, eo, rfl, _⟩ := h
    have := List.length_eraseIdx_le ps i
    omega
theorem Fit.noRef {ps : List Pc} (hz : ps.length < 30) : ∀ {d : Dd} {r : Rf}, Fit ps d → Refs ps d r → False
  | .put c, .many, _, h => by
    have : 30 ≤ ps.length := h
    omega
  | .put c, .twin, f, h => by
    obtain ⟨o, ho, e⟩ := List.mem_map.mp h.2
    exact f o ho e
  | .exch c, .piece, f, h => by
    obtain ⟨o, ho, e⟩ := f
    exact h o ho e
  | .take nm, .piece, f, h => by
    obtain ⟨o, ho, e⟩ := f
    exact h o ho e
structure Bg (C : Addr) (H : Hp) (l pl dl r e : Addr) (wv : V) (ps qs : List Pc) (ds : List Dn) : Prop where
  L : Lk C H l pl dl ps ds
  R : Rows H r ps
  E : Rows H e qs
  n1 : r ∉ [pl, dl]
  n2 : e ∉ [pl, dl]
  nd : (ps.map (·.nm)).Nodup
  ok : ∀ c ∈ ps, NmG c.nm
  le : ps.length ≤ 30
  nd' : (qs.map (·.nm)).Nodup
  ok' : ∀ c ∈ qs, NmG c.nm
  le' : qs.length ≤ 30
  dz : ds.length ≤ 100
  last : (ds = [] ∧ wv = .non ∧ qs = [] ∧ ps = []) ∨ ∃ es d, ds = es ++ [d] ∧ wv = .str d.k.w ∧ Undo ps d qs
theorem Bg.kp {C : Addr} {H H' : Hp} {l pl dl r e : Addr} {wv : V} {ps qs : List Pc} {ds : List Dn} {fp : List Addr} (k : Kp fp H H') (h : Bg C H l pl dl r e wv ps qs ds) (m1 : l ∉ fp) (m2 : pl ∉ fp) (m3 : dl ∉ fp) (m4 : r ∉ fp) (m5 : e ∉ fp) : Bg C H' l pl dl r e wv ps qs ds :=
  ⟨h.L.kp k m1 m2 m3, h.R.kp k m4, h.E.kp k m5, h.n1, h.n2, h.nd, h.ok, h.le, h.nd', h.ok', h.le', h.dz, h.last⟩
theorem Bg.step {C : Addr} {H H' : Hp} {l pl dl r e r' : Addr} {wv : V} {ps qs ps' : List Pc} {ds : List Dn} {d : Dd} {dn : Dn} (h : Bg C H l pl dl r e wv ps qs ds) (st : Step ps d ps' dn) (L : Lk C H' l pl dl ps' (ds ++ [dn])) (R : Rows H' r' ps') (E : Rows H' r ps) (n : r' ∉ [pl, dl]) (hd : NmG d.nm) (le : ps'.length ≤ 30) (dz : ds.length < 100) :
    Bg C H' l pl dl r' r (.str d.kd.w) ps' ps (ds ++ [dn]) :=
  ⟨L, R, E, n, h.n1, st.nd h.nd, st.ok h.ok hd, le, h.nd, h.ok, h.le, by rw [List.length_append]; exact dz, .inr ⟨ds, dn, rfl, by rw [st.kd], st.undo⟩⟩
def nmOf (i : Nat) : Str := ("n" : Str) ++ (toString (i : Int) : String)
theorem nmOf_ok : ∀ i, i < 30 → NmG (nmOf i) := by
  have h1 : ∀ i, i < 30 → PyData.strOk (nmOf i) = true := by decide +kernel
  have h2 : ∀ i, i < 30 → (nmOf i).length ≤ 20 := by decide +kernel
  have h3 : ∀ i, i < 30 → (nmOf i).length ≠ 4 := by decide +kernel
  exact fun i hi => ⟨⟨h1 i hi, h2 i hi⟩, h3 i hi⟩
theorem nmOf_new : ∀ i, i < 30 → nmOf i ∉ (List.range i).map nmOf := by decide +kernel
end WM
set_option Elab.async false
set_option linter.all false
set_option maxRecDepth 100000
set_option maxHeartbeats 2000000
namespace WM
open PySem PySem.Spec PyProof.Rows L2
local macro_rules | `(tactic| walk_at "ne") => `(tactic| first | assumption | exact Ne.symm (by assumption) | exact ne_fresh (by assumption) (by walk_at "hp") | exact (ne_fresh (by assumption) (by walk_at "hp")).symm | exact ne_kind (by walk_at "hp") (by walk_at "hp") (by intro z; cases z))
local macro_rules | `(tactic| walk_at "ni") => `(tactic| first | exact List.not_mem_nil | assumption | exact ni1 (by walk_at "ne") | exact ni2 (by walk_at "ne") (by walk_at "ne") | exact ni3 (by walk_at "ne") (by walk_at "ne") (by walk_at "ne"))
local macro_rules | `(tactic| walk_at "hp") => `(tactic| first | assumption | exact upd_same | (apply upd_getN; (assumption); (walk_at "hp")) | (apply Kp.tup; (assumption); (walk_at "hp")) | (apply Kp.get; (assumption); (walk_at "hp"); (walk_at "ni")))
local macro_rules | `(tactic| walk_at "sq") => `(tactic| first | assumption | exact SqL.of (by walk_at "hp") | (apply Kp.sqL; (assumption); (walk_at "sq"); (walk_at "ni")))
local macro_rules | `(tactic| walk_at "kp") => `(tactic| first | exact Kp.refl _ _ | assumption | exact Kp.nil (by assumption) | (refine' Kp.step (by assumption) ?_ (by first | exact fun _ z => z | exact fun _ z => nomatch z | simp); walk_at "kp"))
local macro_rules | `(tactic| walk_at "tp") => `(tactic| first | assumption | exact Tp.non | exact Tp.bl _ | exact Tp.int _ | exact Tp.str _ | (apply Tp.tup; (walk_at "hp"); (walk_at "tps")) | (apply Tp.kp; (assumption); (walk_at "tp")))
local macro_rules | `(tactic| walk_at "tps") => `(tactic| first | exact TpAll.nil | (refine TpAll.cons ?_ ?_; (walk_at "tp"); (walk_at "tps")))
local macro_rules | `(tactic| walk_at "lk") => `(tactic| first | assumption | rfl)
local macro_rules | `(tactic| walk_at "go1") => `(tactic| first | with_reducible refine x_seq ?_ | with_reducible refine x_asg ?_ | with_reducible refine x_drop ?_ | with_reducible refine x_ret ?_ | with_reducible refine x_if ?_ | with_reducible refine x_next ?_ | with_reducible refine x_par ?_ | with_reducible refine x_par3 ?_ | with_reducible refine x_two ?_ | with_reducible refine x_three ?_ | with_reducible refine x_sfld ?_ | with_reducible refine x_retN ?_ | with_reducible refine x_brk ?_ | with_reducible refine x_name ?_ | with_reducible refine x_gsub ?_ | with_reducible refine x_gcons ?_ | with_reducible refine x_gnil ?_ | ((with_reducible apply x_gtup); (walk_at "hp"); exact rfl) | ((with_reducible apply x_var); exact rfl) | with_reducible refine x_c ?_ | with_reducible refine x_op ?_ | with_reducible refine x_un ?_ | with_reducible refine x_nil ?_ | with_reducible refine x_cons ?_ | with_reducible refine x_tup ?_ | with_reducible refine x_lst ?_ | with_reducible refine x_fldE ?_ | ((with_reducible apply x_fld); (walk_at "hp"); assumption; assumption; (walk_at "lk")) | with_reducible refine x_cal ?_ | with_reducible refine x_metE ?_ | with_reducible refine x_calS ?_ | with_reducible refine x_metS ?_ | ((with_reducible apply x_met); (walk_at "hp"); (walk_at "lk")) | with_reducible refine x_newI ?_ | with_reducible refine x_cb ?_ | with_reducible refine x_bm ?_ | with_reducible refine x_bm0 ?_ | ((with_reducible apply x_bmL); (walk_at "hp")) | with_reducible refine x_sl ?_ | with_reducible refine x_nop ?_ | with_reducible refine x_part ?_ | with_reducible refine x_kP ?_ | with_reducible refine x_ife ?_ | with_reducible refine x_andV ?_ | with_reducible refine x_orV ?_ | with_reducible refine x_notV ?_ | with_reducible refine x_test ?_ | with_reducible refine x_tB ?_ | with_reducible refine x_kB ?_ | with_reducible refine x_and ?_ | with_reducible refine x_or ?_ | with_reducible refine x_not ?_ | with_reducible refine k_T ?_ | with_reducible refine k_F ?_ | with_reducible refine k_not ?_ | walk_at "go2")
local macro_rules | `(tactic| walk_at "go2") => `(tactic| first | ((with_reducible apply x_setF); (walk_at "hp"); assumption; assumption; exact Nat.le_of_ble_eq_true rfl; exact rfl; intro _ _ _) | ((with_reducible apply x_append); (walk_at "hp"); (first | omega | (simp; omega)); intro _ _ _) | ((with_reducible apply x_setL); (walk_at "hp"); exact rfl; intro _ _ _) | with_reducible refine x_addI ?_ | with_reducible refine x_cmp ?_ | with_reducible refine x_subI ?_ | with_reducible refine x_eqI ?_ | with_reducible refine x_eqS ?_ | with_reducible refine x_neI ?_ | with_reducible refine x_neS ?_ | with_reducible refine x_isNo ?_ | with_reducible refine x_notNo ?_ | ((with_reducible apply x_modI); (first | omega | decide)) | ((with_reducible apply x_divI); (first | omega | decide); (first | omega | decide)) | ((with_reducible apply x_mulI); (first | exact .inl ⟨by omega, by omega⟩ | exact .inr ⟨by decide, by decide⟩ | exact .inr ⟨by omega, by omega⟩)) | ((with_reducible apply x_powI); exact ⟨by decide, by decide, by decide⟩) | ((with_reducible apply x_ixT); (walk_at "hp"); exact rfl) | ((with_reducible apply x_ixL); (walk_at "sq"); exact rfl) | ((with_reducible apply x_lenL); (walk_at "sq")) | ((with_reducible apply x_newT); exact Nat.le_of_ble_eq_true rfl; intro _ _ _ _ _) | ((with_reducible apply x_newL); exact Nat.le_of_ble_eq_true rfl; intro _ _ _ _ _) | with_reducible refine x_for ?_ | with_reducible refine x_iL ?_ | with_reducible refine x_iR1 ?_ | with_reducible refine x_iR2 ?_ | with_reducible refine x_iE ?_ | ((with_reducible apply x_kIL); (walk_at "sq")) | ((with_reducible apply x_kE); (walk_at "sq")) | with_reducible refine x_lc ?_ | with_reducible refine x_yes ?_ | ((with_reducible apply x_wp); exact rfl))
local macro_rules | `(tactic| walk_at "go") => `(tactic| (walk_at "go1"; repeat walk_at "go1"))
local macro_rules | `(tactic| walk_at "fr") => `(tactic| first | assumption | exact Kp.free (by assumption) _ (by walk_at "fr"))
local macro_rules | `(tactic| walk_at "lk") => `(tactic| first | exact lf_p _ _ | exact lf_d _ _ | exact lf_no _ _ (by decide +kernel) (by decide +kernel))
local macro_rules | `(tactic| walk_at "go1") => `(tactic| first | with_reducible refine x_rs ?_ | ((with_reducible apply x_niS); (walk_at "sq")) | ((with_reducible apply x_inS); (walk_at "sq")))
local macro_rules | `(tactic| walk_at "go1") => `(tactic| first | with_reducible refine x_xvE ?_ | ((with_reducible apply x_isV); (walk_at "hp"); (walk_at "hp"); assumption; (first | exact ClsV.own _ | exact ClsV.ty _); assumption) | ((with_reducible apply x_xv); (walk_at "hp"); (walk_at "hp"); assumption; assumption) | ((with_reducible apply x_addL); (walk_at "hp"); (walk_at "hp"); exact Nat.le_of_ble_eq_true rfl; intro _ _ _ _ _))
theorem unit1 {n : Nat} (h : n + 64 < cLine) : n + 1 < cLine := by omega
section
variable {P : Program} {w : World} {K : PySem.W.Frag} {mg : Str → Option Value} {base : Heap} {C : Addr}
theorem x_neg {i : Int} {H : Hp} {Q : VK} (q : Q (.int (-i)) H) : rU (fun i => V.int (-i)) (.int i) H Q := ⟨i, rfl, q⟩
theorem x_word {a : Addr} {d : Dd} {σ : L2.St} {H : Hp} {Q : VK} (h8 : σ[8]? = some (some (.ref a))) (hd : DdAt H a d) (h : ∀ H', Kp [] H H' → Q (.str d.kd.w) H') :
    tDGet (tDisp [(tC (.str "put"), tC (.str "put")), (tC (.str "exchange"), tC (.str "exchanged")), (tC (.str "take"), tC (.str "taken"))]) (tOp (rIx K) (tVar 8) (tC (.int 0))) σ H Q := by
  intro p hp
  refine ⟨upd_same, [(.inr "put", .str "put"), (.inr "exchange", .str "exchanged"), (.inr "take", .str "taken")], rfl, by decide, ?_⟩
  have k : Kp [] H (upd (upd H p (.dK [])) p (.dK (mergeK [] [(.inr "put", .str "put"), (.inr "exchange", .str "exchanged"), (.inr "take", .str "taken")]))) := ((Kp.refl [] H).updNew hp).updFree hp
  refine x_op (x_var h8 (x_c (x_ixT (k.tup hd.tup) rfl ?_)))
  cases d with
  | put c => exact ⟨p, _, rfl, .inl ⟨_, .inr "put", .inl upd_same, rfl, by rfl⟩, h _ k⟩
  | exch c => exact ⟨p, _, rfl, .inl ⟨_, .inr "exchange", .inl upd_same, rfl, by rfl⟩, h _ k⟩
  | take c => exact ⟨p, _, rfl, .inl ⟨_, .inr "take", .inl upd_same, rfl, by rfl⟩, h _ k⟩
def spBegun (K : PySem.W.Frag) (C : Addr) : Sp := fun vs H Q _ => ∃ (pn nl : Addr) (ns : List Str), vs = [.ref pn, .ref nl] ∧ Pen K H pn ∧ H nl = some (.lst (ns.map V.str)) ∧ 0 < ns.length ∧ ns.length ≤ 1000 ∧ (∀ x ∈ ns, NmG x) ∧
  ∀ T l pl dl r e wv ps qs ds H', Kp [pn] H H' → Pen K H' pn → H' T = some (.tup [.ref l, .ref r, .ref e, wv]) → Bg C H' l pl dl r e wv ps qs ds → Q (.ref T) H'
abbrev s_e_begun : Stmt := top 28
theorem sc_e_begun : FnScope ["pen", "names", "linker", "rows", "elder", "word", "number", "turn", "deed"] ["pen", "names"] (defScope s_e_begun) := ⟨rfl, rfl, rfl, by decide +kernel, rfl, by decide +kernel, by decide +kernel⟩
theorem D_begun {CM CT CN : Addr} (Z : Blt mg) (cl : Cls K C) (D_Linker_init : Met P w K mg base CX0 C "__init__" 1 (spNew C)) (MK_Linker : ClsMk K mg "Linker" C) (M_put : Met P w K mg base (L2.CX P w) C "put" 3 (spPut C CM CT)) (D_next : Def P w K mg base CX0 "_law_next" 2 (spNext K))
    (D_e_piece : Def P w K mg base CX0 "_law_e_piece" 3 (spPiece K)) (D_e_deed : Def P w K mg base CX0 "_law_e_deed" 4 (spDeed K)) (D_e_do : Def P w K mg base (L2.CX P w) "_law_e_do" 5 (spDo C CM CT CN)) (D_e_after : Def P w K mg base CX0 "_law_e_after" 2 spAfter)
    (D : DefAt K mg "_law_e_begun" s_e_begun ["pen", "names"]) : Def P w K mg base CX0 "_law_e_begun" 6 (spBegun K C) := by
  refine D.ok sc_e_begun (fun vs H Q E h => by obtain ⟨pn, nl, ns, rfl, _⟩ := h; rfl) fun f cdv A outer s H vs Q E hr h => ⟨_, (pss_cons (ps_set (i := 2) sc_e_begun.nd rfl (Or.inl rfl) (pe_new0 D_Linker_init MK_Linker (hr.mono (by decide)) pass0)) (pss_cons (ps_par3 (i := 3) (j := 4) (l := 5) (by rfl) sc_e_begun.nd rfl rfl rfl (by decide) (by decide) (by decide) rfl rfl rfl (pa_cons (pe_lst pa_nil) (pa_cons (pe_lst pa_nil) (pa_cons pe_non pa_nil))) (by rfl)) (pss_cons (ps_if (pt_cmpR (eqK (K := K) hr.units) (pe_def D_next (hr.mono (by decide)) pass0 (pa_cons (pv 0) (pa_cons pe_int pa_nil))) pe_int (nomark _)) (pss_cons (ps_for PassesOwn.never rfl (pi_range1 (by rfl) Z.range (pa_cons (pe_op op_addA pe_int (pe_def D_next (hr.mono (by decide)) pass0 (pa_cons (pv 0) (pa_cons pe_int pa_nil)))) pa_nil)) (pg_name (i := 6) sc_e_begun.nd rfl (Or.inl rfl)) (pss_cons (ps_par (i := 4) (j := 5) (by rfl) sc_e_begun.nd rfl rfl (by decide) rfl rfl (pa_cons (pv 3) (pa_cons pe_str pa_nil)) (by rfl)) (pss_cons (ps_set (i := 3) sc_e_begun.nd rfl (Or.inl rfl) (pe_op op_addA (pv 3) (pe_lst (pa_cons (pe_def D_e_piece (hr.mono (by decide)) pass0 (pa_cons (pv 0) (pa_cons (pe_op op_addA pe_str (pe_callTy call_strI (by rfl) Z.str (by decide +kernel) (pa_cons (pv 6) pa_nil))) pa_nil))) pa_nil)))) (pss_one (ps_expr (pe_met M_put cl (hr.mono (by decide)) passL (pv 2) (pa_cons (pe_ix (ixK (K := K)) (pv 3) (pe_un un_neg pe_int) (fun _ _ => rfl)) pa_nil))))))) (pss_one (ps_ret (pe_tup (pa_cons (pv 2) (pa_cons (pv 3) (pa_cons (pv 4) (pa_cons (pv 5) pa_nil)))))))) pss_nil) (pss_cons (ps_for PassesOwn.never rfl (pi_range1 (by rfl) Z.range (pa_cons (pe_def D_next (hr.mono (by decide)) pass0 (pa_cons (pv 0) (pa_cons pe_int pa_nil))) pa_nil)) (pg_name (i := 7) sc_e_begun.nd rfl (Or.inl rfl)) (pss_cons (ps_set (i := 8) sc_e_begun.nd rfl (Or.inl rfl) (pe_def D_e_deed (hr.mono (by decide)) pass0 (pa_cons (pv 0) (pa_cons (pv 1) (pa_cons (pv 3) pa_nil))))) (pss_cons (ps_expr (pe_def D_e_do (hr.mono (by decide)) passL (pa_cons (pv 2) (pa_cons (pv 8) pa_nil)))) (pss_cons (ps_par (i := 4) (j := 5) (by rfl) sc_e_begun.nd rfl rfl (by decide) rfl rfl (pa_cons (pv 3) (pa_cons (pe_dget (unit1 hr.units) (pe_disp (pps_cons pe_str pe_str (pps_cons pe_str pe_str (pps_cons pe_str pe_str pps_nil))) (by rfl) (by rfl) (fun z => by cases z) (by decide)) (pe_ix (ixK (K := K)) (pv 8) pe_int (fun _ _ => rfl)) (fun _ _ => rfl)) pa_nil)) (by rfl)) (pss_one (ps_set (i := 3) sc_e_begun.nd rfl (Or.inl rfl) (pe_def D_e_after (hr.mono (by decide)) pass0 (pa_cons (pv 3) (pa_cons (pv 8) pa_nil))))))))) (pss_one (ps_ret (pe_tup (pa_cons (pv 2) (pa_cons (pv 3) (pa_cons (pv 4) (pa_cons (pv 5) pa_nil))))))))))), ?_⟩
  obtain ⟨pn, nl, ns, rfl, hp, hn, n0, n1, nok, k⟩ := h
  have ne1 := hp.neS hn
  refine x_body ?_
  walk_at "go"
  refine x_newL0 fun l pl dl H1 k1 m1 m2 m3 d1 d2 L1 => ?_
  walk_at "go"
  rename_i r H2 k2 n2 e2 e H3 k3 n3 e3
  have hp3 := ((hp.kp0 k1).kp0 k2).kp0 k3
  have L3 := (L1.kp k2 List.not_mem_nil List.not_mem_nil List.not_mem_nil).kp k3 List.not_mem_nil List.not_mem_nil List.not_mem_nil
  have e2' : H3 r = some (.lst []) := k3.get e2 List.not_mem_nil
  have r1 : r ∉ [pl, dl] := ni2 (ne_fresh n2 L1.pcs).symm (ne_fresh n2 L1.dns).symm
  have r2 : e ∉ [pl, dl] := ni2 (ne_fresh n3 (k2.get L1.pcs List.not_mem_nil)).symm (ne_fresh n3 (k2.get L1.dns List.not_mem_nil)).symm
  have k03 : Kp [pn] H H3 := ((k1.trans k2).trans k3).nil
  have B3 : Bg C H3 l pl dl r e .non [] [] [] := ⟨L3, ⟨e2', fun _ z => nomatch z⟩, ⟨e3, fun _ z => nomatch z⟩, r1, r2, List.nodup_nil, (fun _ z => nomatch z), by decide, List.nodup_nil, (fun _ z => nomatch z), by decide, by decide, .inl ⟨rfl, rfl, rfl, rfl⟩⟩
  have hlp : ∀ {H' : Hp} {r e : Addr} {wv ps qs ds}, Pen K H' pn → Bg C H' l pl dl r e wv ps qs ds → l ∉ [pn] ∧ pl ∉ [pn] ∧ dl ∉ [pn] ∧ r ∉ [pn] ∧ e ∉ [pn] := fun hp B => by
    obtain ⟨⟨dx, hi⟩, hpl, hdl, _⟩ := B.L
    refine ⟨ni1 ?_, ni1 (hp.neP hpl), ni1 (hp.neP (f := fun x : Dn => x.a) hdl), ni1 (hp.neP B.R.lst), ni1 (hp.neP B.E.lst)⟩
    obtain ⟨sc, zs, a, c, e', _⟩ := hp
    exact ne_kind hi e' (by intro z; cases z)
  refine ⟨pn, 2, rfl, hp3, by decide, by decide, fun z H4 z0 z1 k4 hp4 => ?_⟩
  have B4 : Bg C H4 l pl dl r e .non [] [] [] := by
    obtain ⟨q1, q2, q3, q4, q5⟩ := hlp hp3 B3
    exact B3.kp k4 q1 q2 q3 q4 q5
  have k04 := k03.trans k4
  walk_at "go"
  refine k_dec (fun _ => ?_) (fun _ => ?_)
  · walk_at "go"
    refine ⟨pn, 3, rfl, hp4, by decide, by decide, fun z H5 z0 z1 k5 hp5 => ?_⟩
    have B5 : Bg C H5 l pl dl r e .non [] [] [] := by
      obtain ⟨q1, q2, q3, q4, q5⟩ := hlp hp4 B4
      exact B4.kp k5 q1 q2 q3 q4 q5
    have k05 := k04.trans k5
    walk_at "go"
    refine x_kR1 (by omega) (by omega) ?_
    refine k_forR (fun i σ H' => ∃ r e wv ps qs ds v6, σ = [some (.ref pn), some (.ref nl), some (.ref l), some (.ref r), some (.ref e), some wv, v6, none, none] ∧ Kp [pn] H H' ∧ Pen K H' pn ∧ Bg C H' l pl dl r e wv ps qs ds ∧ ps.map (·.nm) = (List.range i).map nmOf ∧ ds.length ≤ i)
      ⟨r, e, .non, [], [], [], none, rfl, k05, hp5, B5, rfl, Nat.zero_le _⟩ ?_ ?_
    · rintro i σ H6 hi ⟨r, e, wv, ps, qs, ds, v6, rfl, k6, hp6, B6, hnm, hdz⟩
      have hi30 : i < 30 := by omega
      have hlen : ps.length = i := by
        have := congrArg List.length hnm
        rw [List.length_map, List.length_map, List.length_range] at this
        exact this
      have nmk := nmOf_ok i hi30
      rw [Int.zero_add]
      obtain ⟨q1, q2, q3, q4, q5⟩ := hlp hp6 B6
      walk_at "go"
      refine x_strI ?_ ?_
      · have h1 : ((i : Int)).natAbs = i := Int.natAbs_natCast i
        rw [h1]
        exact Nat.lt_of_le_of_lt (Nat.log2_le_self i) (by omega)
      refine x_addS (by have := nmk.ok.sh; unfold nmOf at this; rw [len_app] at this; omega) ?_
      walk_at "go"
      refine ⟨pn, nmOf i, rfl, hp6, nmk.ok, fun c H7 ec k7 hp7 hc7 => ?_⟩
      have B7 := B6.kp k7 q1 q2 q3 q4 q5
      walk_at "go"
      rename_i L1 H8 k8 n8 e8
      refine x_addL (xs := ps.map fun c => V.ref c.p) (k8.get B7.R.lst List.not_mem_nil) e8 (by rw [List.length_map]; simp only [List.length_cons, List.length_nil]; omega) fun r' H9 k9 n9 e9 => ?_
      have B9 := (B7.kp k8 List.not_mem_nil List.not_mem_nil List.not_mem_nil List.not_mem_nil List.not_mem_nil).kp k9 List.not_mem_nil List.not_mem_nil List.not_mem_nil List.not_mem_nil List.not_mem_nil
      have hc9 := (hc7.kp k8).kp k9
      have hp9 := (hp7.kp0 k8).kp0 k9
      have k09 : Kp [pn] H H9 := (k6.trans k7).trans (k8.trans k9).nil
      have B8 := B7.kp k8 List.not_mem_nil List.not_mem_nil List.not_mem_nil List.not_mem_nil List.not_mem_nil
      have nr : r' ∉ [pl, dl] := ni2 (ne_fresh n9 B8.L.pcs).symm (ne_fresh n9 B8.L.dns).symm
      obtain ⟨⟨dx9, hi9⟩, _⟩ := id B9.L
      have e9' : H9 r' = some (.lst ((ps.map fun c => V.ref c.p) ++ [V.ref c.p])) := e9
      walk_at "go"
      refine x_neg ?_
      refine x_ixL (SqL.of e9') (atI_last _ _) ?_
      walk_at "go"
      have hno : c.nm ∉ ps.map (·.nm) := by rw [ec, hnm]; exact nmOf_new i hi30
      refine ⟨l, pl, dl, c, ps, ds, rfl, B9.L, hc9, by omega, by omega, fun z => absurd z (by omega), fun _ z => absurd z hno, fun _ _ a H10 k10 L10 => ?_⟩
      have R10 : Rows H10 r' (ps ++ [c]) := ⟨by rw [k10.get e9' nr, List.map_append]; rfl, L10.pok⟩
      have st : Step ps (.put c) (ps ++ [c]) ⟨a, .put, ps.length, none⟩ := ⟨by omega, hno, rfl, rfl, rfl, rfl⟩
      have B10 := B9.step st L10 R10 (B9.R.kp k10 B9.n1) nr (by show NmG c.nm; rw [ec]; exact nmk) (by rw [List.length_append]; simp only [List.length_cons, List.length_nil]; omega) (by omega)
      have hpd : ∀ b ∈ [pl, dl], ∃ ys, H9 b = some (.lst ys) := fun b hb => by
        rcases List.mem_cons.mp hb with rfl | hb
        · exact ⟨_, B9.L.pcs⟩
        · rw [List.mem_singleton.mp hb]
          exact ⟨_, B9.L.dns⟩
      have hp10 : Pen K H10 pn := hp9.kp k10 (ni2 (hp9.neP B9.L.pcs).symm (hp9.neP (f := fun x : Dn => x.a) B9.L.dns).symm) hpd
      have hfr : ∀ b ∈ [pl, dl], H b = none := fun b hb => by
        rcases List.mem_cons.mp hb with rfl | hb
        · exact m2
        · rw [List.mem_singleton.mp hb]
          exact m3
      exact ⟨r', r, _, _, _, _, _, rfl, k09.new k10 hfr, hp10, B10, by rw [List.map_append, hnm, List.range_succ, List.map_append]; show _ ++ [c.nm] = _; rw [ec]; rfl, by rw [List.length_append]; exact Nat.add_le_add_right hdz 1⟩
    · rintro σ H6 ⟨r, e, wv, ps, qs, ds, v6, rfl, k6, hp6, B6, hnm, hdz⟩
      walk_at "go"
      rename_i T H7 k7 n7 e7
      exact k T l pl dl r e wv ps qs ds H7 (k6.trans k7.nil) (hp6.kp0 k7) e7 (B6.kp k7 List.not_mem_nil List.not_mem_nil List.not_mem_nil List.not_mem_nil List.not_mem_nil)
  · walk_at "go"
    refine ⟨pn, 13, rfl, hp4, by decide, by decide, fun z H5 z0 z1 k5 hp5 => ?_⟩
    have B5 : Bg C H5 l pl dl r e .non [] [] [] := by
      obtain ⟨q1, q2, q3, q4, q5⟩ := hlp hp4 B4
      exact B4.kp k5 q1 q2 q3 q4 q5
    have k05 := k04.trans k5
    walk_at "go"
    refine x_kR1 (by omega) (by omega) ?_
    refine k_forR (fun i σ H' => ∃ r e wv ps qs ds v7 v8, σ = [some (.ref pn), some (.ref nl), some (.ref l), some (.ref r), some (.ref e), some wv, none, v7, v8] ∧ Kp [pn] H H' ∧ Pen K H' pn ∧ Bg C H' l pl dl r e wv ps qs ds ∧ ps.length ≤ i ∧ ds.length ≤ i)
      ⟨r, e, .non, [], [], [], none, none, rfl, k05, hp5, B5, Nat.zero_le _, Nat.zero_le _⟩ ?_ ?_
    · rintro i σ H6 hi ⟨r, e, wv, ps, qs, ds, v7, v8, rfl, k6, hp6, B6, hpz, hdz⟩
      have hi13 : i < 13 := by omega
      obtain ⟨q1, q2, q3, q4, q5⟩ := hlp hp6 B6
      have hn6 := k6.get hn (ni1 ne1)
      walk_at "go"
      refine ⟨pn, nl, r, ns, ps, rfl, hp6, hn6, n0, n1, fun x hx => (nok x hx).ok, B6.R, by omega, fun a d H7 k7 hp7 hd7 fit hnm => ?_⟩
      have B7 := B6.kp k7 q1 q2 q3 q4 q5
      walk_at "go"
      refine ⟨l, pl, dl, a, d, ps, ds, rfl, B7.L, hd7, by omega, by omega, fun rf h => (fit.noRef (by omega) h).elim, fun ps' dn H8 st k8 L8 => ?_⟩
      have hpd : ∀ b ∈ [pl, dl], ∃ ys, H7 b = some (.lst ys) := fun b hb => by
        rcases List.mem_cons.mp hb with rfl | hb
        · exact ⟨_, B7.L.pcs⟩
        · rw [List.mem_singleton.mp hb]
          exact ⟨_, B7.L.dns⟩
      have hp8 : Pen K H8 pn := hp7.kp k8 (ni2 (hp7.neP B7.L.pcs).symm (hp7.neP (f := fun x : Dn => x.a) B7.L.dns).symm) hpd
      have hfr : ∀ b ∈ [pl, dl], H b = none := fun b hb => by
        rcases List.mem_cons.mp hb with rfl | hb
        · exact m2
        · rw [List.mem_singleton.mp hb]
          exact m3
      have k08 : Kp [pn] H H8 := (k6.trans k7).new k8 hfr
      have R8 := B7.R.kp k8 B7.n1
      walk_at "go"
      refine x_word rfl (hd7.kp k8) fun H9 k9 => ?_
      walk_at "go"
      refine ⟨r, a, ps, d, rfl, R8.kp k9 List.not_mem_nil, (hd7.kp k8).kp k9, fun _ _ => fit, by omega, fun p rs H10 k10 n10 R10 af => ?_⟩
      · have e := st.after B6.nd af
        subst e
        have L10 := (L8.kp k9 List.not_mem_nil List.not_mem_nil List.not_mem_nil).kp k10 List.not_mem_nil List.not_mem_nil List.not_mem_nil
        have L9 := L8.kp k9 List.not_mem_nil List.not_mem_nil List.not_mem_nil
        have hl := st.len
        have B10 := B7.step st L10 R10 ((R8.kp k9 List.not_mem_nil).kp k10 List.not_mem_nil) (ni2 (ne_fresh n10 L9.pcs).symm (ne_fresh n10 L9.dns).symm) (nok _ hnm) (by omega) (by omega)
        exact ⟨p, r, _, _, _, _, _, _, rfl, (k08.trans k9.nil).trans k10.nil, (hp8.kp0 k9).kp0 k10, B10, by omega, by rw [List.length_append]; exact Nat.add_le_add_right hdz 1⟩
    · rintro σ H6 ⟨r, e, wv, ps, qs, ds, v7, v8, rfl, k6, hp6, B6, _, _⟩
      walk_at "go"
      rename_i T H7 k7 n7 e7
      exact k T l pl dl r e wv ps qs ds H7 (k6.trans k7.nil) (hp6.kp0 k7) e7 (B6.kp k7 List.not_mem_nil List.not_mem_nil List.not_mem_nil List.not_mem_nil List.not_mem_nil)
end
end WM
set_option Elab.async false
set_option linter.all false
set_option maxRecDepth 100000
set_option maxHeartbeats 2000000
namespace WM
open PySem PySem.Spec PyProof.Rows L2
local macro_rules | `(tactic| walk_at "ne") => `(tactic| first | assumption | exact Ne.symm (by assumption) | exact ne_fresh (by assumption) (by walk_at "hp") | exact (ne_fresh (by assumption) (by walk_at "hp")).symm | exact ne_kind (by walk_at "hp") (by walk_at "hp") (by intro z; cases z))
local macro_rules | `(tactic| walk_at "ni") => `(tactic| first | exact List.not_mem_nil | assumption | exact ni1 (by walk_at "ne") | exact ni2 (by walk_at "ne") (by walk_at "ne") | exact ni3 (by walk_at "ne") (by walk_at "ne") (by walk_at "ne"))
local macro_rules | `(tactic| walk_at "hp") => `(tactic| first | assumption | exact upd_same | (apply upd_getN; (assumption); (walk_at "hp")) | (apply Kp.tup; (assumption); (walk_at "hp")) | (apply Kp.get; (assumption); (walk_at "hp"); (walk_at "ni")))
local macro_rules | `(tactic| walk_at "sq") => `(tactic| first | assumption | exact SqL.of (by walk_at "hp") | (apply Kp.sqL; (assumption); (walk_at "sq"); (walk_at "ni")))
local macro_rules | `(tactic| walk_at "kp") => `(tactic| first | exact Kp.refl _ _ | assumption | exact Kp.nil (by assumption) | (refine' Kp.step (by assumption) ?_ (by first | exact fun _ z => z | exact fun _ z => nomatch z | simp); walk_at "kp"))
local macro_rules | `(tactic| walk_at "tp") => `(tactic| first | assumption | exact Tp.non | exact Tp.bl _ | exact Tp.int _ | exact Tp.str _ | (apply Tp.tup; (walk_at "hp"); (walk_at "tps")) | (apply Tp.kp; (assumption); (walk_at "tp")))
local macro_rules | `(tactic| walk_at "tps") => `(tactic| first | exact TpAll.nil | (refine TpAll.cons ?_ ?_; (walk_at "tp"); (walk_at "tps")))
local macro_rules | `(tactic| walk_at "lk") => `(tactic| first | assumption | rfl)
local macro_rules | `(tactic| walk_at "go1") => `(tactic| first | with_reducible refine x_seq ?_ | with_reducible refine x_asg ?_ | with_reducible refine x_drop ?_ | with_reducible refine x_ret ?_ | with_reducible refine x_if ?_ | with_reducible refine x_next ?_ | with_reducible refine x_par ?_ | with_reducible refine x_par3 ?_ | with_reducible refine x_two ?_ | with_reducible refine x_three ?_ | with_reducible refine x_sfld ?_ | with_reducible refine x_retN ?_ | with_reducible refine x_brk ?_ | with_reducible refine x_name ?_ | with_reducible refine x_gsub ?_ | with_reducible refine x_gcons ?_ | with_reducible refine x_gnil ?_ | ((with_reducible apply x_gtup); (walk_at "hp"); exact rfl) | ((with_reducible apply x_var); exact rfl) | with_reducible refine x_c ?_ | with_reducible refine x_op ?_ | with_reducible refine x_un ?_ | with_reducible refine x_nil ?_ | with_reducible refine x_cons ?_ | with_reducible refine x_tup ?_ | with_reducible refine x_lst ?_ | with_reducible refine x_fldE ?_ | ((with_reducible apply x_fld); (walk_at "hp"); assumption; assumption; (walk_at "lk")) | with_reducible refine x_cal ?_ | with_reducible refine x_metE ?_ | with_reducible refine x_calS ?_ | with_reducible refine x_metS ?_ | ((with_reducible apply x_met); (walk_at "hp"); (walk_at "lk")) | with_reducible refine x_newI ?_ | with_reducible refine x_cb ?_ | with_reducible refine x_bm ?_ | with_reducible refine x_bm0 ?_ | ((with_reducible apply x_bmL); (walk_at "hp")) | with_reducible refine x_sl ?_ | with_reducible refine x_nop ?_ | with_reducible refine x_part ?_ | with_reducible refine x_kP ?_ | with_reducible refine x_ife ?_ | with_reducible refine x_andV ?_ | with_reducible refine x_orV ?_ | with_reducible refine x_notV ?_ | with_reducible refine x_test ?_ | with_reducible refine x_tB ?_ | with_reducible refine x_kB ?_ | with_reducible refine x_and ?_ | with_reducible refine x_or ?_ | with_reducible refine x_not ?_ | with_reducible refine k_T ?_ | with_reducible refine k_F ?_ | with_reducible refine k_not ?_ | walk_at "go2")
local macro_rules | `(tactic| walk_at "go2") => `(tactic| first | ((with_reducible apply x_setF); (walk_at "hp"); assumption; assumption; exact Nat.le_of_ble_eq_true rfl; exact rfl; intro _ _ _) | ((with_reducible apply x_append); (walk_at "hp"); (first | omega | (simp; omega)); intro _ _ _) | ((with_reducible apply x_setL); (walk_at "hp"); exact rfl; intro _ _ _) | with_reducible refine x_addI ?_ | with_reducible refine x_cmp ?_ | with_reducible refine x_subI ?_ | with_reducible refine x_eqI ?_ | with_reducible refine x_eqS ?_ | with_reducible refine x_neI ?_ | with_reducible refine x_neS ?_ | with_reducible refine x_isNo ?_ | with_reducible refine x_notNo ?_ | ((with_reducible apply x_modI); (first | omega | decide)) | ((with_reducible apply x_divI); (first | omega | decide); (first | omega | decide)) | ((with_reducible apply x_mulI); (first | exact .inl ⟨by omega, by omega⟩ | exact .inr ⟨by decide, by decide⟩ | exact .inr ⟨by omega, by omega⟩)) | ((with_reducible apply x_powI); exact ⟨by decide, by decide, by decide⟩) | ((with_reducible apply x_ixT); (walk_at "hp"); exact rfl) | ((with_reducible apply x_ixL); (walk_at "sq"); exact rfl) | ((with_reducible apply x_lenL); (walk_at "sq")) | ((with_reducible apply x_newT); exact Nat.le_of_ble_eq_true rfl; intro _ _ _ _ _) | ((with_reducible apply x_newL); exact Nat.le_of_ble_eq_true rfl; intro _ _ _ _ _) | with_reducible refine x_for ?_ | with_reducible refine x_iL ?_ | with_reducible refine x_iR1 ?_ | with_reducible refine x_iR2 ?_ | with_reducible refine x_iE ?_ | ((with_reducible apply x_kIL); (walk_at "sq")) | ((with_reducible apply x_kE); (walk_at "sq")) | with_reducible refine x_lc ?_ | with_reducible refine x_yes ?_ | ((with_reducible apply x_wp); exact rfl))
local macro_rules | `(tactic| walk_at "go") => `(tactic| (walk_at "go1"; repeat walk_at "go1"))
local macro_rules | `(tactic| walk_at "fr") => `(tactic| first | assumption | exact Kp.free (by assumption) _ (by walk_at "fr"))
local macro_rules | `(tactic| walk_at "lk") => `(tactic| first | exact lf_p _ _ | exact lf_d _ _ | exact lf_no _ _ (by decide +kernel) (by decide +kernel))
local macro_rules | `(tactic| walk_at "go1") => `(tactic| first | with_reducible refine x_rs ?_ | ((with_reducible apply x_niS); (walk_at "sq")) | ((with_reducible apply x_inS); (walk_at "sq")))
local macro_rules | `(tactic| walk_at "go1") => `(tactic| first | with_reducible refine x_xvE ?_ | ((with_reducible apply x_isV); (walk_at "hp"); (walk_at "hp"); assumption; (first | exact ClsV.own _ | exact ClsV.ty _); assumption) | ((with_reducible apply x_xv); (walk_at "hp"); (walk_at "hp"); assumption; assumption) | ((with_reducible apply x_addL); (walk_at "hp"); (walk_at "hp"); exact Nat.le_of_ble_eq_true rfl; intro _ _ _ _ _))
theorem ok_good : NmOk "good" := ⟨by decide +kernel, by decide +kernel⟩
theorem len_good : ("good" : Str).length = 4 := by decide +kernel
theorem g_n0 : NmG "n0" := ⟨⟨by decide +kernel, by decide +kernel⟩, by decide +kernel⟩
theorem g_n29 : NmG "n29" := ⟨⟨by decide +kernel, by decide +kernel⟩, by decide +kernel⟩
section
variable {P : Program} {w : World} {K : PySem.W.Frag} {mg : Str → Option Value} {base : Heap} {C : Addr}
theorem Bg.pen {H : Hp} {pn l pl dl r e : Addr} {wv : V} {ps qs : List Pc} {ds : List Dn} (hp : Pen K H pn) (B : Bg C H l pl dl r e wv ps qs ds) : l ∉ [pn] ∧ pl ∉ [pn] ∧ dl ∉ [pn] ∧ r ∉ [pn] ∧ e ∉ [pn] := by
  obtain ⟨⟨dx, hi⟩, hpl, hdl, _⟩ := B.L
  refine ⟨ni1 ?_, ni1 (hp.neP hpl), ni1 (hp.neP (f := fun x : Dn => x.a) hdl), ni1 (hp.neP B.R.lst), ni1 (hp.neP B.E.lst)⟩
  obtain ⟨sc, zs, a, c, e', _⟩ := hp
  exact ne_kind hi e' (by intro z; cases z)
theorem Bg.kpP {H H' : Hp} {pn l pl dl r e : Addr} {wv : V} {ps qs : List Pc} {ds : List Dn} (hp : Pen K H pn) (k : Kp [pn] H H') (B : Bg C H l pl dl r e wv ps qs ds) : Bg C H' l pl dl r e wv ps qs ds := by
  obtain ⟨q1, q2, q3, q4, q5⟩ := B.pen hp
  exact B.kp k q1 q2 q3 q4 q5
theorem Bg.kp0 {H H' : Hp} {l pl dl r e : Addr} {wv : V} {ps qs : List Pc} {ds : List Dn} (k : Kp [] H H') (B : Bg C H l pl dl r e wv ps qs ds) : Bg C H' l pl dl r e wv ps qs ds :=
  B.kp k List.not_mem_nil List.not_mem_nil List.not_mem_nil List.not_mem_nil List.not_mem_nil
/-- both lists of a Linker may change, the pen stays -/
theorem Lk.pen {H H' : Hp} {pn l pl dl : Addr} {ps : List Pc} {ds : List Dn} (hp : Pen K H pn) (L : Lk C H l pl dl ps ds) (k : Kp [pl, dl] H H') : Pen K H' pn :=
  hp.kp k (ni2 (hp.neP L.pcs).symm (hp.neP (f := fun x : Dn => x.a) L.dns).symm) fun b hb => by
    rcases List.mem_cons.mp hb with rfl | hb
    · exact ⟨_, L.pcs⟩
    · rw [List.mem_singleton.mp hb]
      exact ⟨_, L.dns⟩
theorem Bg.like {H : Hp} {l pl dl r e : Addr} {wv : V} {ps qs : List Pc} {ds : List Dn} {Q : VK} {E : XK} (B : Bg C H l pl dl r e wv ps qs ds) (q : ∀ H', Kp [] H H' → Q (.bl true) H') : spLike C [.ref l, .ref r] H Q E :=
  ⟨l, pl, dl, r, ps, ds, rfl, B.L, B.R, B.nd, fun c hc => (B.ok c hc).ok, B.le, q⟩
theorem k_and {b : Bool} {A M : Prop} (h : M) (g : M → A) : kIf b A M := by
  cases b with
  | true => exact g h
  | false => exact k_F h
theorem k_join {q : Prop} [Decidable q] {A : Prop} {M : Hp → Prop} {H : Hp} (G : Hp → Prop) (hG : G H) (fin : ∀ H', G H' → M H') (hA : q → (∀ H', G H' → M H') → A) : kIf (decide q) A (M H) :=
  k_dec (fun h => hA h fin) fun _ => fin H hG
theorem of_body {t : TS} {N : List Str} {vs : List V} {H : Hp} {Q : VK} (h : Body t N vs H Q) : t { nx := fun _ H' => Q .non H', rt := Q } (start N vs) H := h
def spLaw (K : PySem.W.Frag) : Sp := fun vs H Q _ => ∃ (a : Addr) (ns : List Int), vs = [.ref a] ∧ SqF K H a (ns.map V.int) ∧ ns.length ≤ 63 ∧ ∀ H', Q (.bl true) H'
abbrev s_law : Stmt := top 29
theorem sc_law : FnScope ["script", "pen", "k", "names", "linker", "rows", "elder", "word", "deed", "due"] ["script"] (defScope s_law) := ⟨rfl, rfl, rfl, by decide +kernel, rfl, by decide +kernel, by decide +kernel⟩
theorem D_law {CM CT CN : Addr} (Z : Blt mg) (cl : Cls K C) (M_put : Met P w K mg base (L2.CX P w) C "put" 3 (spPut C CM CT)) (M_names : Met P w K mg base CX0 C "names" 1 (spNames C)) (M_undo : Met P w K mg base CX0 C "undo" 1 (spUndo C)) (D_next : Def P w K mg base CX0 "_law_next" 2 (spNext K))
    (D_e_piece : Def P w K mg base CX0 "_law_e_piece" 3 (spPiece K)) (D_e_names : Def P w K mg base CX0 "_law_e_names" 3 (spNms K)) (D_e_begun : Def P w K mg base CX0 "_law_e_begun" 6 (spBegun K C)) (D_e_refused : Def P w K mg base CX0 "_law_e_refused" 4 (spRefd K)) (D_e_word : Def P w K mg base CX0 "_law_e_word" 6 (spWord C)) (D_e_like : Def P w K mg base CX0 "_law_e_like" 4 (spLike C))
    {fl : Addr} {fd : FuncData} (F : Fun K "law" "law" s_law fl fd) : FnOk P w K mg base CX0 7 fl fd ["script"] (spLaw K) := by
  refine F.ok sc_law (fun vs H Q E h => by obtain ⟨pn, nl, rfl, _⟩ := h; rfl) fun cdv A outer s H vs Q E hr h => ⟨_, (pss_cons (ps_set (i := 1) sc_law.nd rfl (Or.inl rfl) (pe_lst (pa_cons (pv 0) (pa_cons pe_int (pa_cons pe_int pa_nil))))) (pss_cons (ps_for PassesOwn.never rfl (pi_range1 (by rfl) Z.range (pa_cons pe_int pa_nil)) (pg_name (i := 2) sc_law.nd rfl (Or.inl rfl)) (pss_cons (ps_if (PW.pt (pw_and (pt_cmpR op_gtI (pv 2) pe_int (nomark _)) (pw_and1 (pt_cmpR op_geI (pe_ix (ixK (K := K)) (pv 1) pe_int (fun _ _ => rfl)) (pe_callB (lenK (K := K)) (by rfl) Z.len PySem.boot_len (pa_cons (pv 0) pa_nil)) (nomark _))))) (pss_one ps_break) pss_nil) (pss_cons (ps_set (i := 3) sc_law.nd rfl (Or.inl rfl) (pe_op op_addA (pe_def D_e_names (hr.mono (by decide)) pass0 (pa_cons (pv 1) pa_nil)) (pe_lst (pa_cons pe_str (pa_cons pe_str pa_nil))))) (pss_cons (ps_asg (pe_def D_e_begun (hr.mono (by decide)) pass0 (pa_cons (pv 1) (pa_cons (pv 3) pa_nil))) (gtupK (K := K) rfl (pgs_cons (pg_name (i := 4) sc_law.nd rfl (Or.inl rfl)) (pgs_cons (pg_name (i := 5) sc_law.nd rfl (Or.inl rfl)) (pgs_cons (pg_name (i := 6) sc_law.nd rfl (Or.inl rfl)) (pgs_cons (pg_name (i := 7) sc_law.nd rfl (Or.inl rfl)) pgs_nil)))))) (pss_cons (ps_for PassesOwn.never rfl (listIt (K := K) (pe_def D_e_refused (hr.mono (by decide)) pass0 (pa_cons (pv 1) (pa_cons (pv 3) (pa_cons (pv 5) pa_nil))))) (gtupK (K := K) rfl (pgs_cons (pg_name (i := 8) sc_law.nd rfl (Or.inl rfl)) (pgs_cons (pg_name (i := 9) sc_law.nd rfl (Or.inl rfl)) pgs_nil))) (pss_cons (ps_if (pt_cmpR (neK (K := K) hr.units) (pe_def D_e_word (hr.mono (by decide)) pass0 (pa_cons (pv 4) (pa_cons (pv 8) pa_nil))) (pv 9) (nomark _)) (pss_one (ps_ret pe_bl)) pss_nil) (pss_one (ps_if (PW.pt (pw_and (pt_cmpR (eqK (K := K) hr.units) (pe_def D_next (hr.mono (by decide)) pass0 (pa_cons (pv 1) (pa_cons pe_int pa_nil))) pe_int (nomark _)) (pw_and1 (pt_not (pt_val (pe_def D_e_like (hr.mono (by decide)) pass0 (pa_cons (pv 4) (pa_cons (pv 5) pa_nil)))))))) (pss_one (ps_ret pe_bl)) pss_nil)))) (pss_cons (ps_if (pt_not (pt_val (pe_def D_e_like (hr.mono (by decide)) pass0 (pa_cons (pv 4) (pa_cons (pv 5) pa_nil))))) (pss_one (ps_ret pe_bl)) pss_nil) (pss_cons (ps_if (pt_cmpR op_ltI (pe_callB (lenK (K := K)) (by rfl) Z.len PySem.boot_len (pa_cons (pv 5) pa_nil)) pe_int (nomark _)) (pss_cons (ps_expr (pe_met M_put cl (hr.mono (by decide)) passL (pv 4) (pa_cons (pe_def D_e_piece (hr.mono (by decide)) pass0 (pa_cons (pv 1) (pa_cons pe_str pa_nil))) pa_nil))) (pss_one (ps_if (PW.pt (pw_or (pt_cmpR (neK (K := K) hr.units) (pe_ix (ixK (K := K)) (pe_met0 M_names cl (hr.mono (by decide)) pass0 (pv 4)) (pe_un un_neg pe_int) (fun _ _ => rfl)) pe_str (nomark _)) (pw_or1 (pt_cmpR (neK (K := K) hr.units) (pe_met0 M_undo cl (hr.mono (by decide)) pass0 (pv 4)) pe_str (nomark _))))) (pss_one (ps_ret pe_bl)) pss_nil))) pss_nil) (pss_one (ps_if (PW.pt (pw_or (pt_not (pt_val (pe_def D_e_like (hr.mono (by decide)) pass0 (pa_cons (pv 4) (pa_cons (pv 5) pa_nil))))) (pw_or (pt_cmpR (neK (K := K) hr.units) (pe_met0 M_undo cl (hr.mono (by decide)) pass0 (pv 4)) (pv 7) (nomark _)) (pw_or1 (pt_not (pt_val (pe_def D_e_like (hr.mono (by decide)) pass0 (pa_cons (pv 4) (pa_cons (pv 6) pa_nil))))))))) (pss_one (ps_ret pe_bl)) pss_nil))))))))) (pss_one (ps_ret pe_bl)))), ?_⟩
  obtain ⟨a, ns, rfl, hs, hl, k⟩ := h
  refine of_body (x_body ?_)
  walk_at "go"
  rename_i pn H1 k1 n1 e1
  have hs1 : SqF K H1 a (ns.map V.int) := hs.kp k1 fun _ z => nomatch z
  have hp1 : Pen K H1 pn := ⟨a, ns, 0, 0, e1, hs1, hl, Int.le_refl _⟩
  refine x_kR1 (by decide) (by decide) ?_
  refine k_forR (fun i σ H' => ∃ v2 v3 v4 v5 v6 v7 v8 v9, σ = [some (.ref a), some (.ref pn), v2, v3, v4, v5, v6, v7, v8, v9] ∧ SqF K H' a (ns.map V.int) ∧ Pen K H' pn) ⟨_, _, _, _, _, _, _, _, rfl, hs1, hp1⟩ ?_ ?_
  · rintro i σ H2 hi ⟨v2, v3, v4, v5, v6, v7, v8, v9, rfl, hs2, hp2⟩
    have hs2' := hs2.sq
    have hns : (ns.map V.int).length = ns.length := List.length_map ..
    obtain ⟨sc, zs, pa, pc, hpn, _⟩ := id hp2
    walk_at "go"
    refine k_and ?_ (fun hM => ?_)
    rotate_left
    · walk_at "go"
      refine k_dec (fun _ => ?_) (fun _ => hM)
      walk_at "go"
      exact k H2
    walk_at "go"
    refine ⟨pn, rfl, hp2, fun p xs H3 k3 hp3 n3 e3 hx6 hxg => ?_⟩
    walk_at "go"
    rename_i q H4 k4 n4 e4
    refine x_addL (xs := xs.map V.str) (k4.get e3 List.not_mem_nil) e4 (by rw [List.length_map]; simp only [List.length_cons, List.length_nil]; omega) fun N H5 k5 n5 e5 => ?_
    have e5 : H5 N = some (.lst ((xs ++ [("n0" : Str), ("n29" : Str)]).map V.str)) := by rw [e5, List.map_append (l₂ := [("n0" : Str), ("n29" : Str)])]; rfl
    have hgs : ∀ x ∈ xs ++ [("n0" : Str), ("n29" : Str)], NmG x := fun x hx => by
      rcases List.mem_append.mp hx with hx | hx
      · exact hxg x hx
      · simp only [List.mem_cons, List.not_mem_nil, or_false] at hx
        rcases hx with rfl | rfl
        · exact g_n0
        · exact g_n29
    have hgl : (xs ++ [("n0" : Str), ("n29" : Str)]).length = 8 := by rw [List.length_append, hx6]; rfl
    have hp5 := (hp3.kp0 k4).kp0 k5
    walk_at "go"
    refine ⟨pn, N, _, rfl, hp5, e5, by omega, by omega, hgs, fun T l pl dl r e wv ps qs ds H6 k6 hp6 e6 B6 => ?_⟩
    walk_at "go"
    refine ⟨pn, N, r, _, ps, rfl, hp6, k6.get e5 (ni1 (hp5.neS e5)), by omega, fun x hx => (hgs x hx).ok, B6.R, B6.le, fun c hc => (B6.ok c hc).ok, fun Lp Ts H7 k7 hp7 n7 e7 lz hT => ?_⟩
    have nL := hp7.neT e7
    have B7 := B6.kpP hp6 k7
    have k27 : Kp [pn] H2 H7 := ((k3.trans (k4.trans k5).nil).trans k6).trans k7
    refine x_kIL (SqL.of e7) ?_
    refine k_forL (fun i σ H' => ∃ v8 v9, σ = [some (.ref a), some (.ref pn), _, some (.ref N), some (.ref l), some (.ref r), some (.ref e), some wv, v8, v9] ∧ Kp [pn] H7 H' ∧ Pen K H' pn) ⟨_, _, rfl, Kp.refl _ _, hp7⟩ (fun i σ H' _ ⟨_, _, _, k, _⟩ => SqL.of (k.get e7 (ni1 nL))) ?_ ?_
    · rintro i x σ H8 hx ⟨v8, v9, rfl, k8, hp8⟩
      obtain ⟨T', hc, rfl⟩ := Option.map_eq_some_iff.mp (List.getElem?_map .. ▸ hx)
      obtain ⟨a', t', d, rf, g1, hd, g2, rfs, ok⟩ := (hT T' (List.mem_of_getElem? hc)).kp k8
      have B8 := B7.kpP hp7 k8
      walk_at "go"
      refine ⟨l, pl, dl, a', d, ps, ds, rf, rfl, B8.L, hd, by have := B8.le; omega, by have := B8.dz; omega, rfs, ok, fun t2 H9 k9 e9 => ?_⟩
      have g9 := k9.tup g2
      have tp : ∀ {t : Addr}, H9 t = some (.tup [.str rf.w, rf.v d]) → Dp K H9 (.ref t) (.tuple [.str rf.w, rf.d d]) := fun h => (Tp.tup h (.cons (.str _) (.cons (Rf.tp rf) .nil))).dp
      have er : PyData.eqv (.tuple [.str rf.w, rf.d d]) (.tuple [.str rf.w, rf.d d]) = true := Tp.eqvR (Tp.tup e9 (.cons (.str _) (.cons (Rf.tp rf) .nil)))
      walk_at "go"
      refine x_neD (tp e9) (tp g9) (Rf.shp ok rf) (Rf.shp ok rf) ?_
      walk_at "go"
      refine k_bT er ?_
      have hp9 := hp8.kp0 k9
      have B9 := B8.kp0 k9
      walk_at "go"
      refine ⟨pn, 3, rfl, hp9, by decide, by decide, fun z H10 _ _ k10 hp10 => ?_⟩
      have B10 := B9.kpP hp9 k10
      walk_at "go"
      refine k_dec (fun _ => ?_) (fun _ => ?_)
      · walk_at "go"
        refine B10.like fun H11 k11 => ?_
        walk_at "go"
        exact ⟨_, _, rfl, ((k8.trans k9.nil).trans k10).trans k11.nil, hp10.kp0 k11⟩
      · walk_at "go"
        exact ⟨_, _, rfl, (k8.trans k9.nil).trans k10, hp10⟩
    · rintro σ H8 ⟨v8, v9, rfl, k8, hp8⟩
      have B8 := B7.kpP hp7 k8
      walk_at "go"
      refine B8.like fun H9 k9 => ?_
      have B9 := B8.kp0 k9
      have hp9 := hp8.kp0 k9
      have hr9 := B9.R.lst
      have hle := B9.le
      have hdz := B9.dz
      have hlr : (ps.map fun c => V.ref c.p).length = ps.length := List.length_map ..
      have k29 : Kp [pn] H2 H9 := (k27.trans k8).trans k9.nil
      have hs9 : SqF K H9 a (ns.map V.int) := hs2.kp k29 (one_lst hpn)
      obtain ⟨⟨dx9, hi9⟩, _⟩ := id B9.L
      walk_at "go"
      refine k_join (fun H' => Pen K H' pn ∧ Bg C H' l pl dl r e wv ps qs ds ∧ SqF K H' a (ns.map V.int)) ⟨hp9, B9, hs9⟩ (fun H10 ⟨hp10, B10, hs10⟩ => ?_) (fun hlt fin => ?_)
      · walk_at "go"
        refine B10.like fun H11 k11 => ?_
        have B11 := B10.kp0 k11
        have hp11 := hp10.kp0 k11
        have hs11 : SqF K H11 a (ns.map V.int) := hs10.kp k11 fun _ z => nomatch z
        obtain ⟨⟨dx11, hi11⟩, _⟩ := id B11.L
        walk_at "go"
        rcases B11.last with ⟨rfl, rfl, rfl, rfl⟩ | ⟨es0, d0, rfl, rfl, hu⟩
        · refine ⟨l, pl, dl, [], [], rfl, B11.L, by decide, fun _ H12 k12 => ?_, fun es e0 h => absurd h (by simp)⟩
          have B12 := B11.kp0 k12
          walk_at "go"
          refine x_neV rfl ?_
          walk_at "go"
          refine k_is rfl ?_
          walk_at "go"
          refine ⟨l, pl, dl, e, [], [], rfl, B12.L, B12.E, B12.nd', fun c hc => (B12.ok' c hc).ok, B12.le', fun H13 k13 => ?_⟩
          walk_at "go"
          exact ⟨_, _, _, _, _, _, _, _, rfl, (hs11.kp k12 (fun _ z => nomatch z)).kp k13 (fun _ z => nomatch z), (hp11.kp0 k12).kp0 k13⟩
        · refine ⟨l, pl, dl, ps, es0 ++ [d0], rfl, B11.L, by omega, fun h => absurd h (by simp), fun es e0 h => ?_⟩
          obtain ⟨rfl, h2⟩ := List.append_inj' h rfl
          cases h2
          refine ⟨qs, hu, fun H12 k12 L12 => ?_⟩
          have hp12 := B11.L.pen hp11 k12
          have hs12 : SqF K H12 a (ns.map V.int) := hs11.kp k12 fun b hb => by
            rcases List.mem_cons.mp hb with rfl | hb
            · exact ⟨_, B11.L.pcs⟩
            · rw [List.mem_singleton.mp hb]
              exact ⟨_, B11.L.dns⟩
          walk_at "go"
          refine k_is rfl ?_
          walk_at "go"
          refine ⟨l, pl, dl, e, qs, es0, rfl, L12, B11.E.kp k12 B11.n2, B11.nd', fun c hc => (B11.ok' c hc).ok, B11.le', fun H13 k13 => ?_⟩
          walk_at "go"
          exact ⟨_, _, _, _, _, _, _, _, rfl, hs12.kp k13 (fun _ z => nomatch z), hp12.kp0 k13⟩
      · walk_at "go"
        refine ⟨pn, "good", rfl, hp9, ok_good, fun c H10 ec k10 hp10 hc10 => ?_⟩
        have B10 := B9.kpP hp9 k10
        have hs10 : SqF K H10 a (ns.map V.int) := by
          obtain ⟨_, _, _, _, z, _⟩ := id hp9
          exact hs9.kp k10 (one_lst z)
        have hng : c.nm ∉ ps.map (·.nm) := fun z => by
          obtain ⟨o, ho, eo⟩ := List.mem_map.mp z
          have := (B9.ok o ho).n4
          rw [eo, ec, len_good] at this
          exact this rfl
        walk_at "go"
        refine ⟨l, pl, dl, c, ps, ds, rfl, B10.L, hc10, by omega, by omega, fun z => absurd z (by omega), fun _ z => absurd z hng, fun _ _ b H11 k11 L11 => ?_⟩
        have hpd : ∀ b ∈ [pl, dl], ∃ ys, H10 b = some (.lst ys) := fun b hb => by
          rcases List.mem_cons.mp hb with rfl | hb
          · exact ⟨_, B10.L.pcs⟩
          · rw [List.mem_singleton.mp hb]
            exact ⟨_, B10.L.dns⟩
        have hp11 := B10.L.pen hp10 k11
        have hs11 : SqF K H11 a (ns.map V.int) := hs10.kp k11 hpd
        obtain ⟨⟨dx11, hi11⟩, _⟩ := id L11
        walk_at "go"
        refine ⟨l, pl, dl, _, _, rfl, L11, by rw [List.length_append]; simp only [List.length_cons, List.length_nil]; omega, fun nl H12 k12 n12 e12 => ?_⟩
        have e12 : H12 nl = some (.lst ((ps.map (·.nm)).map V.str ++ [V.str c.nm])) := by rw [e12, List.map_append, List.map_append]; rfl
        walk_at "go"
        refine x_neg (x_ixL (SqL.of e12) (atI_last _ _) ?_)
        have L12 := L11.kp k12 List.not_mem_nil List.not_mem_nil List.not_mem_nil
        obtain ⟨⟨dx12, hi12⟩, _⟩ := id L12
        have hp12 := hp11.kp0 k12
        have hs12 : SqF K H12 a (ns.map V.int) := hs11.kp k12 fun _ z => nomatch z
        walk_at "go"
        refine k_is ec ?_
        walk_at "go"
        refine ⟨l, pl, dl, _, _, rfl, L12, by rw [List.length_append]; simp only [List.length_cons, List.length_nil]; omega, fun h => absurd h (by simp), fun es e0 h => ?_⟩
        obtain ⟨rfl, h2⟩ := List.append_inj' h rfl
        cases h2
        refine ⟨ps, ⟨by show ps.length < _; rw [List.length_append]; exact Nat.lt_succ_self _, (eraseIdx_last ps c).symm⟩, fun H13 k13 L13 => ?_⟩
        have hp13 := L12.pen hp12 k13
        have hs13 : SqF K H13 a (ns.map V.int) := hs12.kp k13 fun b hb => by
          rcases List.mem_cons.mp hb with rfl | hb
          · exact ⟨_, L12.pcs⟩
          · rw [List.mem_singleton.mp hb]
            exact ⟨_, L12.dns⟩
        have R13 := ((B10.R.kp k11 B10.n1).kp k12 List.not_mem_nil).kp k13 B10.n1
        have E13 := ((B10.E.kp k11 B10.n2).kp k12 List.not_mem_nil).kp k13 B10.n2
        have B13 : Bg C H13 l pl dl r e wv ps qs ds := ⟨L13, R13, E13, B9.n1, B9.n2, B9.nd, B9.ok, B9.le, B9.nd', B9.ok', B9.le', B9.dz, B9.last⟩
        walk_at "go"
        refine k_is rfl ?_
        exact fin H13 ⟨hp13, B13, hs13⟩
  · rintro σ H2 ⟨v2, v3, v4, v5, v6, v7, v8, v9, rfl, hs2, hp2⟩
    walk_at "go"
    exact k H2
end
end WM
set_option Elab.async false
set_option linter.all false
set_option maxRecDepth 100000
set_option maxHeartbeats 2000000
namespace WM
open PySem PySem.Spec PyProof.Rows L2
/-! ### where the defs stand -/
theorem at_fill {K : PySem.W.Frag} {h : Heap} {mg : Str → Option Value} {f : Addr} {oc kV dc pm cd ct : Value} {od an : Option Addr} {sl : Array (Option Value)} (X : K.In h) (G : h.Ns mainGlobals mg) (a : PySem.W.nsIn K mainGlobals "_law_fill" = some (some (.ref f)))
    (l : K.lookup f = some ⟨oc, od, .func (PySem.W.fnOf "_law_fill" "_law_fill" (defArgs s_fill) (defBody s_fill) (defScope s_fill) .none kV dc pm an cd ct), sl⟩) (c : PySem.W.codeIn K cd "_law_fill" = true) (k : PySem.W.keepIn K (.ref f) = true) : DefAt K mg "_law_fill" s_fill ["_law_cell", "_law_at"] :=
  ⟨f, _, fun_mk (st := s_fill) l c k, PySem.W.mg_of X G a, (fun_mk (st := s_fill) l c k).binds (ps := ["_law_cell", "_law_at"]) fun _ _ _ _ _ _ us hl => match us, hl with | [_, _], _ => rfl⟩
theorem at_next {K : PySem.W.Frag} {h : Heap} {mg : Str → Option Value} {f : Addr} {oc kV dc pm cd ct : Value} {od an : Option Addr} {sl : Array (Option Value)} (X : K.In h) (G : h.Ns mainGlobals mg) (a : PySem.W.nsIn K mainGlobals "_law_next" = some (some (.ref f)))
    (l : K.lookup f = some ⟨oc, od, .func (PySem.W.fnOf "_law_next" "_law_next" (defArgs s_next) (defBody s_next) (defScope s_next) .none kV dc pm an cd ct), sl⟩) (c : PySem.W.codeIn K cd "_law_next" = true) (k : PySem.W.keepIn K (.ref f) = true) : DefAt K mg "_law_next" s_next ["_law_pen", "_law_many"] :=
  ⟨f, _, fun_mk (st := s_next) l c k, PySem.W.mg_of X G a, (fun_mk (st := s_next) l c k).binds (ps := ["_law_pen", "_law_many"]) fun _ _ _ _ _ _ us hl => match us, hl with | [_, _], _ => rfl⟩
theorem at_e_piece {K : PySem.W.Frag} {h : Heap} {mg : Str → Option Value} {f : Addr} {oc kV dc pm cd ct : Value} {od an : Option Addr} {sl : Array (Option Value)} (X : K.In h) (G : h.Ns mainGlobals mg) (a : PySem.W.nsIn K mainGlobals "_law_e_piece" = some (some (.ref f)))
    (l : K.lookup f = some ⟨oc, od, .func (PySem.W.fnOf "_law_e_piece" "_law_e_piece" (defArgs s_e_piece) (defBody s_e_piece) (defScope s_e_piece) .none kV dc pm an cd ct), sl⟩) (c : PySem.W.codeIn K cd "_law_e_piece" = true) (k : PySem.W.keepIn K (.ref f) = true) : DefAt K mg "_law_e_piece" s_e_piece ["pen", "name"] :=
  ⟨f, _, fun_mk (st := s_e_piece) l c k, PySem.W.mg_of X G a, (fun_mk (st := s_e_piece) l c k).binds (ps := ["pen", "name"]) fun _ _ _ _ _ _ us hl => match us, hl with | [_, _], _ => rfl⟩
theorem at_e_names {K : PySem.W.Frag} {h : Heap} {mg : Str → Option Value} {f : Addr} {oc kV dc pm cd ct : Value} {od an : Option Addr} {sl : Array (Option Value)} (X : K.In h) (G : h.Ns mainGlobals mg) (a : PySem.W.nsIn K mainGlobals "_law_e_names" = some (some (.ref f)))
    (l : K.lookup f = some ⟨oc, od, .func (PySem.W.fnOf "_law_e_names" "_law_e_names" (defArgs s_e_names) (defBody s_e_names) (defScope s_e_names) .none kV dc pm an cd ct), sl⟩) (c : PySem.W.codeIn K cd "_law_e_names" = true) (k : PySem.W.keepIn K (.ref f) = true) : DefAt K mg "_law_e_names" s_e_names ["pen"] :=
  ⟨f, _, fun_mk (st := s_e_names) l c k, PySem.W.mg_of X G a, (fun_mk (st := s_e_names) l c k).binds (ps := ["pen"]) fun _ _ _ _ _ _ us hl => match us, hl with | [_], _ => rfl⟩
theorem at_e_spot {K : PySem.W.Frag} {h : Heap} {mg : Str → Option Value} {f : Addr} {oc kV dc pm cd ct : Value} {od an : Option Addr} {sl : Array (Option Value)} (X : K.In h) (G : h.Ns mainGlobals mg) (a : PySem.W.nsIn K mainGlobals "_law_e_spot" = some (some (.ref f)))
    (l : K.lookup f = some ⟨oc, od, .func (PySem.W.fnOf "_law_e_spot" "_law_e_spot" (defArgs s_e_spot) (defBody s_e_spot) (defScope s_e_spot) .none kV dc pm an cd ct), sl⟩) (c : PySem.W.codeIn K cd "_law_e_spot" = true) (k : PySem.W.keepIn K (.ref f) = true) : DefAt K mg "_law_e_spot" s_e_spot ["rows", "name"] :=
  ⟨f, _, fun_mk (st := s_e_spot) l c k, PySem.W.mg_of X G a, (fun_mk (st := s_e_spot) l c k).binds (ps := ["rows", "name"]) fun _ _ _ _ _ _ us hl => match us, hl with | [_, _], _ => rfl⟩
theorem at_e_deed {K : PySem.W.Frag} {h : Heap} {mg : Str → Option Value} {f : Addr} {oc kV dc pm cd ct : Value} {od an : Option Addr} {sl : Array (Option Value)} (X : K.In h) (G : h.Ns mainGlobals mg) (a : PySem.W.nsIn K mainGlobals "_law_e_deed" = some (some (.ref f)))
    (l : K.lookup f = some ⟨oc, od, .func (PySem.W.fnOf "_law_e_deed" "_law_e_deed" (defArgs s_e_deed) (defBody s_e_deed) (defScope s_e_deed) .none kV dc pm an cd ct), sl⟩) (c : PySem.W.codeIn K cd "_law_e_deed" = true) (k : PySem.W.keepIn K (.ref f) = true) : DefAt K mg "_law_e_deed" s_e_deed ["pen", "names", "rows"] :=
  ⟨f, _, fun_mk (st := s_e_deed) l c k, PySem.W.mg_of X G a, (fun_mk (st := s_e_deed) l c k).binds (ps := ["pen", "names", "rows"]) fun _ _ _ _ _ _ us hl => match us, hl with | [_, _, _], _ => rfl⟩
theorem at_e_after {K : PySem.W.Frag} {h : Heap} {mg : Str → Option Value} {f : Addr} {oc kV dc pm cd ct : Value} {od an : Option Addr} {sl : Array (Option Value)} (X : K.In h) (G : h.Ns mainGlobals mg) (a : PySem.W.nsIn K mainGlobals "_law_e_after" = some (some (.ref f)))
    (l : K.lookup f = some ⟨oc, od, .func (PySem.W.fnOf "_law_e_after" "_law_e_after" (defArgs s_e_after) (defBody s_e_after) (defScope s_e_after) .none kV dc pm an cd ct), sl⟩) (c : PySem.W.codeIn K cd "_law_e_after" = true) (k : PySem.W.keepIn K (.ref f) = true) : DefAt K mg "_law_e_after" s_e_after ["rows", "deed"] :=
  ⟨f, _, fun_mk (st := s_e_after) l c k, PySem.W.mg_of X G a, (fun_mk (st := s_e_after) l c k).binds (ps := ["rows", "deed"]) fun _ _ _ _ _ _ us hl => match us, hl with | [_, _], _ => rfl⟩
theorem at_e_do {K : PySem.W.Frag} {h : Heap} {mg : Str → Option Value} {f : Addr} {oc kV dc pm cd ct : Value} {od an : Option Addr} {sl : Array (Option Value)} (X : K.In h) (G : h.Ns mainGlobals mg) (a : PySem.W.nsIn K mainGlobals "_law_e_do" = some (some (.ref f)))
    (l : K.lookup f = some ⟨oc, od, .func (PySem.W.fnOf "_law_e_do" "_law_e_do" (defArgs s_e_do) (defBody s_e_do) (defScope s_e_do) .none kV dc pm an cd ct), sl⟩) (c : PySem.W.codeIn K cd "_law_e_do" = true) (k : PySem.W.keepIn K (.ref f) = true) : DefAt K mg "_law_e_do" s_e_do ["linker", "deed"] :=
  ⟨f, _, fun_mk (st := s_e_do) l c k, PySem.W.mg_of X G a, (fun_mk (st := s_e_do) l c k).binds (ps := ["linker", "deed"]) fun _ _ _ _ _ _ us hl => match us, hl with | [_, _], _ => rfl⟩
theorem at_e_like {K : PySem.W.Frag} {h : Heap} {mg : Str → Option Value} {f : Addr} {oc kV dc pm cd ct : Value} {od an : Option Addr} {sl : Array (Option Value)} (X : K.In h) (G : h.Ns mainGlobals mg) (a : PySem.W.nsIn K mainGlobals "_law_e_like" = some (some (.ref f)))
    (l : K.lookup f = some ⟨oc, od, .func (PySem.W.fnOf "_law_e_like" "_law_e_like" (defArgs s_e_like) (defBody s_e_like) (defScope s_e_like) .none kV dc pm an cd ct), sl⟩) (c : PySem.W.codeIn K cd "_law_e_like" = true) (k : PySem.W.keepIn K (.ref f) = true) : DefAt K mg "_law_e_like" s_e_like ["linker", "rows"] :=
  ⟨f, _, fun_mk (st := s_e_like) l c k, PySem.W.mg_of X G a, (fun_mk (st := s_e_like) l c k).binds (ps := ["linker", "rows"]) fun _ _ _ _ _ _ us hl => match us, hl with | [_, _], _ => rfl⟩
theorem at_e_kind {K : PySem.W.Frag} {h : Heap} {mg : Str → Option Value} {f : Addr} {oc kV dc pm cd ct : Value} {od an : Option Addr} {sl : Array (Option Value)} (X : K.In h) (G : h.Ns mainGlobals mg) (a : PySem.W.nsIn K mainGlobals "_law_e_kind" = some (some (.ref f)))
    (l : K.lookup f = some ⟨oc, od, .func (PySem.W.fnOf "_law_e_kind" "_law_e_kind" (defArgs s_e_kind) (defBody s_e_kind) (defScope s_e_kind) .none kV dc pm an cd ct), sl⟩) (c : PySem.W.codeIn K cd "_law_e_kind" = true) (k : PySem.W.keepIn K (.ref f) = true) : DefAt K mg "_law_e_kind" s_e_kind ["caught"] :=
  ⟨f, _, fun_mk (st := s_e_kind) l c k, PySem.W.mg_of X G a, (fun_mk (st := s_e_kind) l c k).binds (ps := ["caught"]) fun _ _ _ _ _ _ us hl => match us, hl with | [_], _ => rfl⟩
theorem at_e_word {K : PySem.W.Frag} {h : Heap} {mg : Str → Option Value} {f : Addr} {oc kV dc pm cd ct : Value} {od an : Option Addr} {sl : Array (Option Value)} (X : K.In h) (G : h.Ns mainGlobals mg) (a : PySem.W.nsIn K mainGlobals "_law_e_word" = some (some (.ref f)))
    (l : K.lookup f = some ⟨oc, od, .func (PySem.W.fnOf "_law_e_word" "_law_e_word" (defArgs s_e_word) (defBody s_e_word) (defScope s_e_word) .none kV dc pm an cd ct), sl⟩) (c : PySem.W.codeIn K cd "_law_e_word" = true) (k : PySem.W.keepIn K (.ref f) = true) : DefAt K mg "_law_e_word" s_e_word ["linker", "deed"] :=
  ⟨f, _, fun_mk (st := s_e_word) l c k, PySem.W.mg_of X G a, (fun_mk (st := s_e_word) l c k).binds (ps := ["linker", "deed"]) fun _ _ _ _ _ _ us hl => match us, hl with | [_, _], _ => rfl⟩
theorem at_e_refused {K : PySem.W.Frag} {h : Heap} {mg : Str → Option Value} {f : Addr} {oc kV dc pm cd ct : Value} {od an : Option Addr} {sl : Array (Option Value)} (X : K.In h) (G : h.Ns mainGlobals mg) (a : PySem.W.nsIn K mainGlobals "_law_e_refused" = some (some (.ref f)))
    (l : K.lookup f = some ⟨oc, od, .func (PySem.W.fnOf "_law_e_refused" "_law_e_refused" (defArgs s_e_refused) (defBody s_e_refused) (defScope s_e_refused) .none kV dc pm an cd ct), sl⟩) (c : PySem.W.codeIn K cd "_law_e_refused" = true) (k : PySem.W.keepIn K (.ref f) = true) : DefAt K mg "_law_e_refused" s_e_refused ["pen", "names", "rows"] :=
  ⟨f, _, fun_mk (st := s_e_refused) l c k, PySem.W.mg_of X G a, (fun_mk (st := s_e_refused) l c k).binds (ps := ["pen", "names", "rows"]) fun _ _ _ _ _ _ us hl => match us, hl with | [_, _, _], _ => rfl⟩
theorem at_e_begun {K : PySem.W.Frag} {h : Heap} {mg : Str → Option Value} {f : Addr} {oc kV dc pm cd ct : Value} {od an : Option Addr} {sl : Array (Option Value)} (X : K.In h) (G : h.Ns mainGlobals mg) (a : PySem.W.nsIn K mainGlobals "_law_e_begun" = some (some (.ref f)))
    (l : K.lookup f = some ⟨oc, od, .func (PySem.W.fnOf "_law_e_begun" "_law_e_begun" (defArgs s_e_begun) (defBody s_e_begun) (defScope s_e_begun) .none kV dc pm an cd ct), sl⟩) (c : PySem.W.codeIn K cd "_law_e_begun" = true) (k : PySem.W.keepIn K (.ref f) = true) : DefAt K mg "_law_e_begun" s_e_begun ["pen", "names"] :=
  ⟨f, _, fun_mk (st := s_e_begun) l c k, PySem.W.mg_of X G a, (fun_mk (st := s_e_begun) l c k).binds (ps := ["pen", "names"]) fun _ _ _ _ _ _ us hl => match us, hl with | [_, _], _ => rfl⟩
theorem at_Twin_init {K : PySem.W.Frag} {C f : Addr} {oc kV dc pm cd ct : Value} {od an : Option Addr} {sl : Array (Option Value)} (a : PySem.W.findIn K (.ref C) "__init__" = some (some (.ref f))) (i : PySem.W.isFn K (.ref f) = true)
    (l : K.lookup f = some ⟨oc, od, .func (PySem.W.fnOf "__init__" "Twin.__init__" (defArgs s_Twin_init) (defBody s_Twin_init) (defScope s_Twin_init) .none kV dc pm an cd ct), sl⟩) (c : PySem.W.codeIn K cd "Twin.__init__" = true) (k : PySem.W.keepIn K (.ref f) = true) : MetAt K C "__init__" "Twin.__init__" s_Twin_init ["self", "name"] :=
  ⟨f, _, fun_mk (st := s_Twin_init) l c k, a, i, (fun_mk (st := s_Twin_init) l c k).binds (ps := ["self", "name"]) fun _ _ _ _ _ _ us hl => match us, hl with | [_, _], _ => rfl⟩
theorem at_NoPiece_init {K : PySem.W.Frag} {C f : Addr} {oc kV dc pm cd ct : Value} {od an : Option Addr} {sl : Array (Option Value)} (a : PySem.W.findIn K (.ref C) "__init__" = some (some (.ref f))) (i : PySem.W.isFn K (.ref f) = true)
    (l : K.lookup f = some ⟨oc, od, .func (PySem.W.fnOf "__init__" "NoPiece.__init__" (defArgs s_NoPiece_init) (defBody s_NoPiece_init) (defScope s_NoPiece_init) .none kV dc pm an cd ct), sl⟩) (c : PySem.W.codeIn K cd "NoPiece.__init__" = true) (k : PySem.W.keepIn K (.ref f) = true) : MetAt K C "__init__" "NoPiece.__init__" s_NoPiece_init ["self", "name"] :=
  ⟨f, _, fun_mk (st := s_NoPiece_init) l c k, a, i, (fun_mk (st := s_NoPiece_init) l c k).binds (ps := ["self", "name"]) fun _ _ _ _ _ _ us hl => match us, hl with | [_, _], _ => rfl⟩
theorem at_TooMany_init {K : PySem.W.Frag} {C f : Addr} {oc kV dc pm cd ct : Value} {od an : Option Addr} {sl : Array (Option Value)} (a : PySem.W.findIn K (.ref C) "__init__" = some (some (.ref f))) (i : PySem.W.isFn K (.ref f) = true)
    (l : K.lookup f = some ⟨oc, od, .func (PySem.W.fnOf "__init__" "TooMany.__init__" (defArgs s_TooMany_init) (defBody s_TooMany_init) (defScope s_TooMany_init) .none kV dc pm an cd ct), sl⟩) (c : PySem.W.codeIn K cd "TooMany.__init__" = true) (k : PySem.W.keepIn K (.ref f) = true) : MetAt K C "__init__" "TooMany.__init__" s_TooMany_init ["self", "most"] :=
  ⟨f, _, fun_mk (st := s_TooMany_init) l c k, a, i, (fun_mk (st := s_TooMany_init) l c k).binds (ps := ["self", "most"]) fun _ _ _ _ _ _ us hl => match us, hl with | [_, _], _ => rfl⟩
theorem at_Linker_init {K : PySem.W.Frag} {C f : Addr} {oc kV dc pm cd ct : Value} {od an : Option Addr} {sl : Array (Option Value)} (a : PySem.W.findIn K (.ref C) "__init__" = some (some (.ref f))) (i : PySem.W.isFn K (.ref f) = true)
    (l : K.lookup f = some ⟨oc, od, .func (PySem.W.fnOf "__init__" "Linker.__init__" (defArgs s_Linker_init) (defBody s_Linker_init) (defScope s_Linker_init) .none kV dc pm an cd ct), sl⟩) (c : PySem.W.codeIn K cd "Linker.__init__" = true) (k : PySem.W.keepIn K (.ref f) = true) : MetAt K C "__init__" "Linker.__init__" s_Linker_init ["self"] :=
  ⟨f, _, fun_mk (st := s_Linker_init) l c k, a, i, (fun_mk (st := s_Linker_init) l c k).binds (ps := ["self"]) fun _ _ _ _ _ _ us hl => match us, hl with | [_], _ => rfl⟩
theorem at_Linker_eq {K : PySem.W.Frag} {C f : Addr} {oc kV dc pm cd ct : Value} {od an : Option Addr} {sl : Array (Option Value)} (a : PySem.W.findIn K (.ref C) "__eq__" = some (some (.ref f))) (i : PySem.W.isFn K (.ref f) = true)
    (l : K.lookup f = some ⟨oc, od, .func (PySem.W.fnOf "__eq__" "Linker.__eq__" (defArgs s_Linker_eq) (defBody s_Linker_eq) (defScope s_Linker_eq) .none kV dc pm an cd ct), sl⟩) (c : PySem.W.codeIn K cd "Linker.__eq__" = true) (k : PySem.W.keepIn K (.ref f) = true) : MetAt K C "__eq__" "Linker.__eq__" s_Linker_eq ["self", "other"] :=
  ⟨f, _, fun_mk (st := s_Linker_eq) l c k, a, i, (fun_mk (st := s_Linker_eq) l c k).binds (ps := ["self", "other"]) fun _ _ _ _ _ _ us hl => match us, hl with | [_, _], _ => rfl⟩
theorem at_Linker_len {K : PySem.W.Frag} {C f : Addr} {oc kV dc pm cd ct : Value} {od an : Option Addr} {sl : Array (Option Value)} (a : PySem.W.findIn K (.ref C) "__len__" = some (some (.ref f))) (i : PySem.W.isFn K (.ref f) = true)
    (l : K.lookup f = some ⟨oc, od, .func (PySem.W.fnOf "__len__" "Linker.__len__" (defArgs s_Linker_len) (defBody s_Linker_len) (defScope s_Linker_len) .none kV dc pm an cd ct), sl⟩) (c : PySem.W.codeIn K cd "Linker.__len__" = true) (k : PySem.W.keepIn K (.ref f) = true) : MetAt K C "__len__" "Linker.__len__" s_Linker_len ["self"] :=
  ⟨f, _, fun_mk (st := s_Linker_len) l c k, a, i, (fun_mk (st := s_Linker_len) l c k).binds (ps := ["self"]) fun _ _ _ _ _ _ us hl => match us, hl with | [_], _ => rfl⟩
theorem at_Linker_names {K : PySem.W.Frag} {C f : Addr} {oc kV dc pm cd ct : Value} {od an : Option Addr} {sl : Array (Option Value)} (a : PySem.W.findIn K (.ref C) "names" = some (some (.ref f))) (i : PySem.W.isFn K (.ref f) = true)
    (l : K.lookup f = some ⟨oc, od, .func (PySem.W.fnOf "names" "Linker.names" (defArgs s_Linker_names) (defBody s_Linker_names) (defScope s_Linker_names) .none kV dc pm an cd ct), sl⟩) (c : PySem.W.codeIn K cd "Linker.names" = true) (k : PySem.W.keepIn K (.ref f) = true) : MetAt K C "names" "Linker.names" s_Linker_names ["self"] :=
  ⟨f, _, fun_mk (st := s_Linker_names) l c k, a, i, (fun_mk (st := s_Linker_names) l c k).binds (ps := ["self"]) fun _ _ _ _ _ _ us hl => match us, hl with | [_], _ => rfl⟩
theorem at_Linker_spot {K : PySem.W.Frag} {C f : Addr} {oc kV dc pm cd ct : Value} {od an : Option Addr} {sl : Array (Option Value)} (a : PySem.W.findIn K (.ref C) "spot" = some (some (.ref f))) (i : PySem.W.isFn K (.ref f) = true)
    (l : K.lookup f = some ⟨oc, od, .func (PySem.W.fnOf "spot" "Linker.spot" (defArgs s_Linker_spot) (defBody s_Linker_spot) (defScope s_Linker_spot) .none kV dc pm an cd ct), sl⟩) (c : PySem.W.codeIn K cd "Linker.spot" = true) (k : PySem.W.keepIn K (.ref f) = true) : MetAt K C "spot" "Linker.spot" s_Linker_spot ["self", "name"] :=
  ⟨f, _, fun_mk (st := s_Linker_spot) l c k, a, i, (fun_mk (st := s_Linker_spot) l c k).binds (ps := ["self", "name"]) fun _ _ _ _ _ _ us hl => match us, hl with | [_, _], _ => rfl⟩
theorem at_Linker_put {K : PySem.W.Frag} {C f : Addr} {oc kV dc pm cd ct : Value} {od an : Option Addr} {sl : Array (Option Value)} (a : PySem.W.findIn K (.ref C) "put" = some (some (.ref f))) (i : PySem.W.isFn K (.ref f) = true)
    (l : K.lookup f = some ⟨oc, od, .func (PySem.W.fnOf "put" "Linker.put" (defArgs s_Linker_put) (defBody s_Linker_put) (defScope s_Linker_put) .none kV dc pm an cd ct), sl⟩) (c : PySem.W.codeIn K cd "Linker.put" = true) (k : PySem.W.keepIn K (.ref f) = true) : MetAt K C "put" "Linker.put" s_Linker_put ["self", "piece"] :=
  ⟨f, _, fun_mk (st := s_Linker_put) l c k, a, i, (fun_mk (st := s_Linker_put) l c k).binds (ps := ["self", "piece"]) fun _ _ _ _ _ _ us hl => match us, hl with | [_, _], _ => rfl⟩
theorem at_Linker_exchange {K : PySem.W.Frag} {C f : Addr} {oc kV dc pm cd ct : Value} {od an : Option Addr} {sl : Array (Option Value)} (a : PySem.W.findIn K (.ref C) "exchange" = some (some (.ref f))) (i : PySem.W.isFn K (.ref f) = true)
    (l : K.lookup f = some ⟨oc, od, .func (PySem.W.fnOf "exchange" "Linker.exchange" (defArgs s_Linker_exchange) (defBody s_Linker_exchange) (defScope s_Linker_exchange) .none kV dc pm an cd ct), sl⟩) (c : PySem.W.codeIn K cd "Linker.exchange" = true) (k : PySem.W.keepIn K (.ref f) = true) : MetAt K C "exchange" "Linker.exchange" s_Linker_exchange ["self", "piece"] :=
  ⟨f, _, fun_mk (st := s_Linker_exchange) l c k, a, i, (fun_mk (st := s_Linker_exchange) l c k).binds (ps := ["self", "piece"]) fun _ _ _ _ _ _ us hl => match us, hl with | [_, _], _ => rfl⟩
theorem at_Linker_take_out {K : PySem.W.Frag} {C f : Addr} {oc kV dc pm cd ct : Value} {od an : Option Addr} {sl : Array (Option Value)} (a : PySem.W.findIn K (.ref C) "take_out" = some (some (.ref f))) (i : PySem.W.isFn K (.ref f) = true)
    (l : K.lookup f = some ⟨oc, od, .func (PySem.W.fnOf "take_out" "Linker.take_out" (defArgs s_Linker_take_out) (defBody s_Linker_take_out) (defScope s_Linker_take_out) .none kV dc pm an cd ct), sl⟩) (c : PySem.W.codeIn K cd "Linker.take_out" = true) (k : PySem.W.keepIn K (.ref f) = true) : MetAt K C "take_out" "Linker.take_out" s_Linker_take_out ["self", "name"] :=
  ⟨f, _, fun_mk (st := s_Linker_take_out) l c k, a, i, (fun_mk (st := s_Linker_take_out) l c k).binds (ps := ["self", "name"]) fun _ _ _ _ _ _ us hl => match us, hl with | [_, _], _ => rfl⟩
theorem at_Linker_undo {K : PySem.W.Frag} {C f : Addr} {oc kV dc pm cd ct : Value} {od an : Option Addr} {sl : Array (Option Value)} (a : PySem.W.findIn K (.ref C) "undo" = some (some (.ref f))) (i : PySem.W.isFn K (.ref f) = true)
    (l : K.lookup f = some ⟨oc, od, .func (PySem.W.fnOf "undo" "Linker.undo" (defArgs s_Linker_undo) (defBody s_Linker_undo) (defScope s_Linker_undo) .none kV dc pm an cd ct), sl⟩) (c : PySem.W.codeIn K cd "Linker.undo" = true) (k : PySem.W.keepIn K (.ref f) = true) : MetAt K C "undo" "Linker.undo" s_Linker_undo ["self"] :=
  ⟨f, _, fun_mk (st := s_Linker_undo) l c k, a, i, (fun_mk (st := s_Linker_undo) l c k).binds (ps := ["self"]) fun _ _ _ _ _ _ us hl => match us, hl with | [_], _ => rfl⟩
/-! ### the errors' classes -/
theorem oex_mk {K : PySem.W.Frag} {C N : Addr} {nm q : Str} {bs bm sub : List Value} {sn : List Str} {ab : Bool} {col : Option Bool} {dd : Option Addr} {k0 k1 k2 k3 k5 : Option Value}
    (l : K.lookup C = some (excClassObj nm q C N bs bm true sn sub ab col dd k0 k1 k2 k3 k5 "ValueError.__new__")) (r : PySem.HandSPX.refsVE bm = true) (sa : PySem.W.findIn K (.ref C) "__setattr__" = some (some (.builtin "object.__setattr__")))
    (ex : PySem.W.subIn K (.ref C) (.type "BaseException") = some true) (ty : PySem.W.typeIn K (.ref C) = some (.type "type")) (kp : PySem.W.keepIn K (.ref C) = true) : OexC K C := ⟨⟨_, _, _, _, _, _, _, _, _, _, _, _, _, _, _, l, r⟩, sa, ex, ty, kp⟩
theorem kit_own {K : PySem.W.Frag} {D c : Addr} {b : Bool} (ne : (Value.ref D == Value.ref c) = b) (i : PySem.W.isClsIn K c = true) (t : PySem.W.typeIn K (.ref c) = some (.type "type")) (s : PySem.W.subIn K (.ref D) (.ref c) = some b) : PySem.W.kitOne K (.ref D) (.ref c) = some b := by
  have e2 : ((PySem.W.clsIn K c).isSome && PySem.W.typeIn K (.ref c) == some (.type "type")) = true := by
    rw [show (PySem.W.clsIn K c).isSome = true from i, t] <;> rfl
  unfold PySem.W.kitOne PySem.W.kitCls
  cases b with
  | true => rw [if_pos ne]
  | false =>
    rw [if_neg (by rw [ne]; exact Bool.false_ne_true)]
    show (if ((PySem.W.clsIn K c).isSome && PySem.W.typeIn K (.ref c) == some (.type "type")) = true then PySem.W.subIn K (.ref D) (.ref c) else none) = some false
    rw [if_pos e2]
    exact s
theorem kit_val {K : PySem.W.Frag} {D : Addr} (s : PySem.W.subIn K (.ref D) (.type "ValueError") = some true) : PySem.W.kitOne K (.ref D) (.type "ValueError") = some true := by
  unfold PySem.W.kitOne PySem.W.kitCls
  by_cases h : (Value.ref D == Value.type "ValueError") = true
  · rw [if_pos h]
  · rw [if_neg h]
    show (if PySem.W.kitMeta "ValueError" = true then PySem.W.subIn K (.ref D) (.type "ValueError") else none) = some true
    rw [if_pos (by decide +kernel)]
    exact s
theorem exm_mk {K : PySem.W.Frag} {D W : Addr} (h1 : PySem.W.subIn K (.ref W) (.type "BaseException") = some true) (i : PySem.W.isClsIn K W = true) (t : PySem.W.typeIn K (.ref W) = some (.type "type")) (s : PySem.W.subIn K (.ref D) (.ref W) = some true) : PySem.W.exmOne K (.ref D) (.ref W) = some true := by
  have e1 : (PySem.W.subIn K (.ref W) (.type "BaseException") == some true) = true := by rw [h1] <;> rfl
  have e2 : ((PySem.W.clsIn K W).isSome && PySem.W.typeIn K (.ref W) == some (.type "type")) = true := by
    rw [show (PySem.W.clsIn K W).isSome = true from i, t] <;> rfl
  unfold PySem.W.exmOne PySem.W.kitCls
  rw [if_pos e1]
  show (if ((PySem.W.clsIn K W).isSome && PySem.W.typeIn K (.ref W) == some (.type "type")) = true then PySem.W.subIn K (.ref D) (.ref W) else none) = some true
  rw [if_pos e2]
  exact s
def nine (c0 c1 c2 c3 c4 c5 c6 c7 c8 : Addr) : Nat → Addr
  | 0 => c0 | 1 => c1 | 2 => c2 | 3 => c3 | 4 => c4 | 5 => c5 | 6 => c6 | 7 => c7 | 8 => c8 | _ => 0
/-- a class of the errors -/
structure CK (K : PySem.W.Frag) (C : Addr) : Prop where
  i : PySem.W.isClsIn K C = true
  t : PySem.W.typeIn K (.ref C) = some (.type "type")
/-- one of the three that are raised -/
structure Ex3 (K : PySem.W.Frag) (c0 c1 c2 c3 c4 c5 c6 c7 c8 CW D : Addr) (j : Nat) (f : Str) : Prop where
  T : OexC K D
  E : ExcK K D
  q : ∀ i, i < 9 → (Value.ref D == Value.ref (nine c0 c1 c2 c3 c4 c5 c6 c7 c8 i)) = decide (i = j)
  s : ∀ i, i < 9 → PySem.W.subIn K (.ref D) (.ref (nine c0 c1 c2 c3 c4 c5 c6 c7 c8 i)) = some (decide (i = j))
  v : PySem.W.subIn K (.ref D) (.type "ValueError") = some true
  n : PySem.W.findIn K (.ref D) f = some none
  w : PySem.W.subIn K (.ref D) (.ref CW) = some true
theorem lt9 {p : Nat → Prop} (h0 : p 0) (h1 : p 1) (h2 : p 2) (h3 : p 3) (h4 : p 4) (h5 : p 5) (h6 : p 6) (h7 : p 7) (h8 : p 8) : ∀ i, i < 9 → p i := by
  intro i hi
  match i, hi with
  | 0, _ => exact h0
  | 1, _ => exact h1
  | 2, _ => exact h2
  | 3, _ => exact h3
  | 4, _ => exact h4
  | 5, _ => exact h5
  | 6, _ => exact h6
  | 7, _ => exact h7
  | 8, _ => exact h8
/-- what the top has left -/
structure Top (K : PySem.W.Frag) (mg : Str → Option Value) (C CW c0 c1 c2 c3 c4 c5 c6 c7 c8 : Addr) : Prop where
  Z : Blt mg
  cl : Cls K C
  nP : NoAttr K C "pieces"
  nD : NoAttr K C "done"
  gL : mg "Linker" = some (.ref C)
  gW : mg "WeldError" = some (.ref CW)
  gM : ∃ tk, mg "MOST_PIECES" = some (.int 30 tk)
  G : ExG mg (nine c0 c1 c2 c3 c4 c5 c6 c7 c8)
  mkC : PySem.W.makesIn K C = true
  kc : PySem.W.keepIn K (.ref C) = true
  ha : PySem.W.findIn K (.ref C) "__class__" = some (some (.builtin "object.__class__"))
  hn : PySem.W.specialIn K (.builtin "object.__class__") "__get__" = some (some (.builtin "getset_descriptor.__get__"))
  ht : PySem.W.takesIn K (.builtin "object.__class__") = some true
  hm : PySem.W.mroIn K C (.type "object") = some true
  iC : CIni K CW (.type "type")
  wB : PySem.W.subIn K (.ref CW) (.type "BaseException") = some true
  wC : CK K CW
  k0 : CK K c0
  k1 : CK K c1
  k2 : CK K c2
  k3 : CK K c3
  k4 : CK K c4
  k5 : CK K c5
  k6 : CK K c6
  k7 : CK K c7
  k8 : CK K c8
  eT : Ex3 K c0 c1 c2 c3 c4 c5 c6 c7 c8 CW c5 5 "name"
  eN : Ex3 K c0 c1 c2 c3 c4 c5 c6 c7 c8 CW c6 6 "name"
  eM : Ex3 K c0 c1 c2 c3 c4 c5 c6 c7 c8 CW c7 7 "most"
  d_fill : DefAt K mg "_law_fill" s_fill ["_law_cell", "_law_at"]
  d_next : DefAt K mg "_law_next" s_next ["_law_pen", "_law_many"]
  d_e_piece : DefAt K mg "_law_e_piece" s_e_piece ["pen", "name"]
  d_e_names : DefAt K mg "_law_e_names" s_e_names ["pen"]
  d_e_spot : DefAt K mg "_law_e_spot" s_e_spot ["rows", "name"]
  d_e_deed : DefAt K mg "_law_e_deed" s_e_deed ["pen", "names", "rows"]
  d_e_after : DefAt K mg "_law_e_after" s_e_after ["rows", "deed"]
  d_e_do : DefAt K mg "_law_e_do" s_e_do ["linker", "deed"]
  d_e_like : DefAt K mg "_law_e_like" s_e_like ["linker", "rows"]
  d_e_kind : DefAt K mg "_law_e_kind" s_e_kind ["caught"]
  d_e_word : DefAt K mg "_law_e_word" s_e_word ["linker", "deed"]
  d_e_refused : DefAt K mg "_law_e_refused" s_e_refused ["pen", "names", "rows"]
  d_e_begun : DefAt K mg "_law_e_begun" s_e_begun ["pen", "names"]
  m_Twin_init : MetAt K c5 "__init__" "Twin.__init__" s_Twin_init ["self", "name"]
  m_NoPiece_init : MetAt K c6 "__init__" "NoPiece.__init__" s_NoPiece_init ["self", "name"]
  m_TooMany_init : MetAt K c7 "__init__" "TooMany.__init__" s_TooMany_init ["self", "most"]
  m_Linker_init : MetAt K C "__init__" "Linker.__init__" s_Linker_init ["self"]
  m_Linker_eq : MetAt K C "__eq__" "Linker.__eq__" s_Linker_eq ["self", "other"]
  m_Linker_len : MetAt K C "__len__" "Linker.__len__" s_Linker_len ["self"]
  m_Linker_names : MetAt K C "names" "Linker.names" s_Linker_names ["self"]
  m_Linker_spot : MetAt K C "spot" "Linker.spot" s_Linker_spot ["self", "name"]
  m_Linker_put : MetAt K C "put" "Linker.put" s_Linker_put ["self", "piece"]
  m_Linker_exchange : MetAt K C "exchange" "Linker.exchange" s_Linker_exchange ["self", "piece"]
  m_Linker_take_out : MetAt K C "take_out" "Linker.take_out" s_Linker_take_out ["self", "name"]
  m_Linker_undo : MetAt K C "undo" "Linker.undo" s_Linker_undo ["self"]
theorem Ex3.kind {K : PySem.W.Frag} {c0 c1 c2 c3 c4 c5 c6 c7 c8 CW D : Addr} {j : Nat} {f : Str} (e : Ex3 K c0 c1 c2 c3 c4 c5 c6 c7 c8 CW D j f) (k : ∀ i, i < 9 → CK K (nine c0 c1 c2 c3 c4 c5 c6 c7 c8 i)) (wB : PySem.W.subIn K (.ref CW) (.type "BaseException") = some true) (wC : CK K CW) :
    KindOk K (nine c0 c1 c2 c3 c4 c5 c6 c7 c8) CW D j f := ⟨e.E, fun i hi => kit_own (e.q i hi) (k i hi).i (k i hi).t (e.s i hi), kit_val e.v, e.n, exm_mk wB wC.i wC.t e.w⟩
theorem fn_type {K : PySem.W.Frag} (f : Addr) (h : PySem.W.isFn K (.ref f) = true) : PySem.W.typeIn K (.ref f) = some (.type "function") := by
  have h' : (PySem.W.typeIn K (.ref f) == some (.type "function")) = true := h
  exact eq_of_beq h'
theorem fin {P : Program} {w : World} {K : PySem.W.Frag} {h : Heap} {mg : Str → Option Value} {fa f C CW c0 c1 c2 c3 c4 c5 c6 c7 c8 : Addr} {oc kV dc pm cd ct : Value} {od an : Option Addr} {sl : Array (Option Value)} (X : K.In h) (G : h.Ns mainGlobals mg) (hfa : mg "law" = some (.ref fa))
    (a : PySem.W.nsIn K mainGlobals "law" = some (some (.ref f))) (l : K.lookup f = some ⟨oc, od, .func (PySem.W.fnOf "law" "law" (defArgs s_law) (defBody s_law) (defScope s_law) .none kV dc pm an cd ct), sl⟩) (c : PySem.W.codeIn K cd "law" = true) (k : PySem.W.keepIn K (.ref f) = true)
    (T : Top K mg C CW c0 c1 c2 c3 c4 c5 c6 c7 c8) : ∃ fd : FuncData, (∀ (s : Shared) (v : Value), BindsTo s fd ⟨[v], []⟩ [("script", v)]) ∧ ∀ base : Heap, K.In base → base.Ns mainGlobals mg → FnOk P w K mg base CX0 7 fa fd ["script"] (spLaw K) := by
  have e := hfa.symm.trans (PySem.W.mg_of X G a)
  cases e
  obtain ⟨tk, gM⟩ := T.gM
  refine ⟨PySem.W.fnOf "law" "law" (defArgs s_law) (defBody s_law) (defScope s_law) .none kV dc pm an cd ct, fun s v => .of_eq rfl, fun base _ _ => ?_⟩
  have kk : ∀ i, i < 9 → CK K (nine c0 c1 c2 c3 c4 c5 c6 c7 c8 i) := lt9 T.k0 T.k1 T.k2 T.k3 T.k4 T.k5 T.k6 T.k7 T.k8
  have hk : ∀ rf : Rf, KindOk K (nine c0 c1 c2 c3 c4 c5 c6 c7 c8) CW (rf.C c7 c5 c6) rf.j rf.f := fun rf => match rf with
    | .many => T.eM.kind kk T.wB T.wC
    | .twin => T.eT.kind kk T.wB T.wC
    | .piece => T.eN.kind kk T.wB T.wC
  have X_Twin : ExcD P w K mg base "Twin" c5 "name" := I_Twin T.eT.T T.gW T.iC T.eT.n T.G.g5 T.m_Twin_init fn_type
  have X_NoPiece : ExcD P w K mg base "NoPiece" c6 "name" := I_NoPiece T.eN.T T.gW T.iC T.eN.n T.G.g6 T.m_NoPiece_init fn_type
  have X_TooMany : ExcD P w K mg base "TooMany" c7 "most" := I_TooMany T.eM.T T.gW T.iC T.eM.n T.G.g7 T.m_TooMany_init fn_type
  have M0 := M_init (P := P) (w := w) (mg := mg) (base := base) T.cl T.nP T.nD T.m_Linker_init
  have Mn := M_names (P := P) (w := w) (mg := mg) (base := base) T.cl T.nP T.m_Linker_names
  have Ml := M_len (P := P) (w := w) (mg := mg) (base := base) T.Z T.cl T.nP T.m_Linker_len
  have Ms := M_spot T.Z T.cl T.nP X_NoPiece T.m_Linker_spot
  have Mp := M_put T.Z T.cl T.nP T.nD gM X_TooMany X_Twin Mn T.m_Linker_put
  have Mx := M_exchange T.Z T.cl T.nP T.nD Ms T.m_Linker_exchange
  have Mt := M_take_out T.Z T.cl T.nP T.nD Ms T.m_Linker_take_out
  have ti : ∀ (H : Hp) (l pl dl dx : Addr), H l = some (.ins C dx (lf pl dl)) → TyX K H (.ref l) (.ref C) := fun H l pl dl dx e => .base (.ins e T.cl T.ha T.hn T.ht T.hm)
  have kC : PySem.W.kitOne K (.ref C) (.ref C) = some true := by
    unfold PySem.W.kitOne
    rw [if_pos (by simp)]
  have kL : PySem.W.kitOne K (.type "list") (.type "list") = some true := by
    unfold PySem.W.kitOne
    rw [if_pos (by simp)]
  have Me := M_eq (P := P) (w := w) (mg := mg) (base := base) T.Z T.cl T.nP T.gL ti kC T.m_Linker_eq
  have Mu := M_undo (P := P) (w := w) (mg := mg) (base := base) T.Z T.cl T.nP T.nD T.m_Linker_undo
  have MK : ClsMk K mg "Linker" C := ⟨T.gL, T.cl, T.mkC, T.kc⟩
  have D1 := D_fill (P := P) (w := w) (mg := mg) (base := base) T.d_fill
  have D2 := D_next T.Z D1 T.d_next
  have D3 := D_piece D2 T.d_e_piece
  have D4 := D_names D2 T.d_e_names
  have D5 := D_spot (P := P) (w := w) (mg := mg) (base := base) T.Z T.d_e_spot
  have D6 := D_deed T.Z D2 D3 D5 T.d_e_deed
  have D7 := D_after D5 T.d_e_after
  have D8 := D_do T.cl Mp Mx Mt T.d_e_do
  have D9 := D_like T.Z T.cl kL M0 MK Mp Mn Ml Me T.d_e_like
  have D10 := D_kind (P := P) (w := w) (mg := mg) (base := base) T.Z T.G hk T.d_e_kind
  have D11 := D_word T.Z T.gW hk D8 D10 T.d_e_word
  have D12 := D_refused T.Z D3 T.d_e_refused
  have D13 := D_begun T.Z T.cl M0 MK Mp D2 D3 D6 D8 D7 T.d_e_begun
  exact D_law (CN := c6) T.Z T.cl Mp Mn Mu D2 D3 D4 D13 D12 D11 D9 (fun_mk (st := s_law) l c k)
theorem gm_mk {K : PySem.W.Frag} {h : Heap} {mg : Str → Option Value} {tk : Tok} (X : K.In h) (G : h.Ns mainGlobals mg) (a : PySem.W.nsIn K mainGlobals "MOST_PIECES" = some (some (.int 30 tk))) : ∃ tk, mg "MOST_PIECES" = some (.int 30 tk) := ⟨tk, PySem.W.mg_of X G a⟩
theorem walk81 {l : PySem.W.OpenLaw} {q : Program} {loose : List Str} {XP : (Str → Option Value) → Heap → Prop} {YP : World → Heap → Prop} {d : DefRec} {K : Params → PySem.W.Frag} (hn : l.most = some 63) (hdf : d.params.defaults = []) (hY : ∀ (w : World) (h : Heap), YP w h → (K w.params).In h)
    (F : ∀ (w : World) (mg : Str → Option Value) (fa : Addr) (h : Heap), (K w.params).In h → h.Ns mainGlobals mg → mg d.name = some (.ref fa) → ∃ fd : FuncData, (∀ (s : Shared) (u : Value), BindsTo s fd ⟨[u], []⟩ [("script", u)]) ∧
      ∀ base : Heap, (K w.params).In base → base.Ns mainGlobals mg → FnOk l.prog w (K w.params) mg base CX0 7 fa fd ["script"] (spLaw (K w.params))) : PySem.W.WalkO q loose XP YP l.row.toRowW d [] (fun f vs => PySem.call f vs) :=
  L2.walk_of (n := 63) (k := 7) (x := "script") (CX := fun _ => CX0) (sp := fun w => spLaw (K w.params)) hn (by decide) hdf ⟨rfl, by decide, by decide⟩ hY F (fun _ H a ns hl hO hS => ⟨a, ns, rfl, by
    rcases hS with (z | ⟨o, z⟩) | z
    · rcases hO a with y | ⟨o, xs, y⟩
      · rw [y] at z
        cases z
      · rw [y] at z
        cases z
    · exact .inl ⟨o, z⟩
    · exact .inr z, hl, fun _ => rfl⟩) fun _ _ _ _ _ z => z
end WM
set_option Elab.async false
set_option linter.all false
set_option maxRecDepth 100000
open PySem PySem.W PyProof.Rows
local macro_rules | `(tactic| walk_at "def") => `(tactic| (case a => k_is); (case l => k_is); (case c => k_is); (case k => k_is))
local macro_rules | `(tactic| walk_at "met") => `(tactic| (case a => k_is); (case i => k_is); (case l => k_is); (case c => k_is); (case k => k_is))
local macro_rules | `(tactic| walk_at "ck") => `(tactic| (refine' ⟨?i, ?t⟩; (case i => k_is); (case t => k_is)))
local macro_rules | `(tactic| walk_at "exk") => `(tactic| (refine' ⟨?z1, ?z2, ?z3, ?z4, ?z5, ?z6, ?z7, ?z8, ?z9⟩; (case z1 => (show PySem.W.isClsIn _ _ = true; k_is)); (case z2 => k_is); (case z3 => k_is); (case z4 => k_is); (case z5 => k_is); (case z6 => k_is); (case z7 => k_is); (case z8 => k_is); (case z9 => k_is)))
local macro_rules | `(tactic| walk_at "ex3") => `(tactic| (refine' ⟨?T, ?E, ?q, ?s, ?v, ?n, ?w⟩; (case T => (refine' WM.oex_mk ?l ?r ?sa ?ex ?ty ?kp; (case l => k_is); (case r => decide +kernel); (case sa => k_is); (case ex => k_is); (case ty => k_is); (case kp => k_is))); (case E => walk_at "exk"); (case q => (refine WM.lt9 ?_ ?_ ?_ ?_ ?_ ?_ ?_ ?_ ?_ <;> rfl)); (case s => (refine' WM.lt9 ?_ ?_ ?_ ?_ ?_ ?_ ?_ ?_ ?_ <;> (simp only [WM.nine]; k_is))); (case v => k_is); (case n => k_is); (case w => k_is)))
set_option maxRecDepth 100000 in
set_option maxHeartbeats 0 in
theorem PySem.Challenge.cw_weldmill_k81_deeds_refused_holds : PySem.Challenge.rw_weldmill_k81_deeds_refused.Holds := by
  w_on; o_law; k_head; (case hw => w_witness2)
  k_fill
  refine WM.walk81 (l := PySem.Challenge.rw_weldmill_k81_deeds_refused) rfl rfl (fun w h Y => PySem.W.kIn_of Y) ?F
  case F =>
    intro w mg fa h KX G hmg
    refine' WM.fin KX G hmg ?a ?l ?c ?k ?T
    (case a => k_is); (case l => k_is); (case c => k_is); (case k => k_is)
    case T =>
      refine' WM.Top.mk ?Z ?cl ?nP ?nD ?gL ?gW ?gM ?G ?mkC ?kc ?ha ?hn ?ht ?hm ?iC ?wB ?wC ?k0 ?k1 ?k2 ?k3 ?k4 ?k5 ?k6 ?k7 ?k8 ?eT ?eN ?eM ?d_fill ?d_next ?d_e_piece ?d_e_names ?d_e_spot ?d_e_deed ?d_e_after ?d_e_do ?d_e_like ?d_e_kind ?d_e_word ?d_e_refused ?d_e_begun ?m_Twin_init ?m_NoPiece_init ?m_TooMany_init ?m_Linker_init ?m_Linker_eq ?m_Linker_len ?m_Linker_names ?m_Linker_spot ?m_Linker_put ?m_Linker_exchange ?m_Linker_take_out ?m_Linker_undo
      (case gL => (refine' mg_of KX G ?a; (case a => k_is)))
      (case gW => (refine' mg_of KX G ?a; (case a => k_is)))
      (case gM => (refine' WM.gm_mk KX G ?a; (case a => k_is)))
      (case G => (refine' ⟨mg_of KX G ?a0, mg_of KX G ?a1, mg_of KX G ?a2, mg_of KX G ?a3, mg_of KX G ?a4, mg_of KX G ?a5, mg_of KX G ?a6, mg_of KX G ?a7, mg_of KX G ?a8⟩; (case a0 => (simp only [WM.nine]; k_is)); (case a1 => (simp only [WM.nine]; k_is)); (case a2 => (simp only [WM.nine]; k_is)); (case a3 => (simp only [WM.nine]; k_is)); (case a4 => (simp only [WM.nine]; k_is)); (case a5 => (simp only [WM.nine]; k_is)); (case a6 => (simp only [WM.nine]; k_is)); (case a7 => (simp only [WM.nine]; k_is)); (case a8 => (simp only [WM.nine]; k_is))))
      (case Z => (refine' ⟨mg_none_of KX G ?a1, mg_none_of KX G ?a2, mg_none_of KX G ?a3, mg_none_of KX G ?a4, mg_none_of KX G ?a5, mg_none_of KX G ?a6, mg_none_of KX G ?a7⟩; (case a1 => k_is); (case a2 => k_is); (case a3 => k_is); (case a4 => k_is); (case a5 => k_is); (case a6 => k_is); (case a7 => k_is)))
      (case cl => (refine' ⟨?a1, ?a2, ?a3, ?a4⟩; (case a1 => k_is); (case a2 => k_is); (case a3 => k_is); (case a4 => k_is)))
      (case nP => (show PySem.W.findIn _ _ _ = _; k_is)); (case nD => (show PySem.W.findIn _ _ _ = _; k_is))
      (case mkC => k_is); (case kc => k_is); (case ha => k_is); (case hn => k_is); (case ht => k_is); (case hm => k_is)
      (case iC => (refine' ⟨?a1, ?a2, ?a3⟩; (case a1 => k_is); (case a2 => k_is); (case a3 => k_is)))
      (case wB => k_is); (case wC => walk_at "ck")
      (case k0 => walk_at "ck")
      (case k1 => walk_at "ck")
      (case k2 => walk_at "ck")
      (case k3 => walk_at "ck")
      (case k4 => walk_at "ck")
      (case k5 => walk_at "ck")
      (case k6 => walk_at "ck")
      (case k7 => walk_at "ck")
      (case k8 => walk_at "ck")
      (case eT => walk_at "ex3")
      (case eN => walk_at "ex3")
      (case eM => walk_at "ex3")
      (case d_fill => (refine' WM.at_fill KX G ?a ?l ?c ?k; walk_at "def"))
      (case d_next => (refine' WM.at_next KX G ?a ?l ?c ?k; walk_at "def"))
      (case d_e_piece => (refine' WM.at_e_piece KX G ?a ?l ?c ?k; walk_at "def"))
      (case d_e_names => (refine' WM.at_e_names KX G ?a ?l ?c ?k; walk_at "def"))
      (case d_e_spot => (refine' WM.at_e_spot KX G ?a ?l ?c ?k; walk_at "def"))
      (case d_e_deed => (refine' WM.at_e_deed KX G ?a ?l ?c ?k; walk_at "def"))
      (case d_e_after => (refine' WM.at_e_after KX G ?a ?l ?c ?k; walk_at "def"))
      (case d_e_do => (refine' WM.at_e_do KX G ?a ?l ?c ?k; walk_at "def"))
      (case d_e_like => (refine' WM.at_e_like KX G ?a ?l ?c ?k; walk_at "def"))
      (case d_e_kind => (refine' WM.at_e_kind KX G ?a ?l ?c ?k; walk_at "def"))
      (case d_e_word => (refine' WM.at_e_word KX G ?a ?l ?c ?k; walk_at "def"))
      (case d_e_refused => (refine' WM.at_e_refused KX G ?a ?l ?c ?k; walk_at "def"))
      (case d_e_begun => (refine' WM.at_e_begun KX G ?a ?l ?c ?k; walk_at "def"))
      (case m_Twin_init => (refine' WM.at_Twin_init ?a ?i ?l ?c ?k; walk_at "met"))
      (case m_NoPiece_init => (refine' WM.at_NoPiece_init ?a ?i ?l ?c ?k; walk_at "met"))
      (case m_TooMany_init => (refine' WM.at_TooMany_init ?a ?i ?l ?c ?k; walk_at "met"))
      (case m_Linker_init => (refine' WM.at_Linker_init ?a ?i ?l ?c ?k; walk_at "met"))
      (case m_Linker_eq => (refine' WM.at_Linker_eq ?a ?i ?l ?c ?k; walk_at "met"))
      (case m_Linker_len => (refine' WM.at_Linker_len ?a ?i ?l ?c ?k; walk_at "met"))
      (case m_Linker_names => (refine' WM.at_Linker_names ?a ?i ?l ?c ?k; walk_at "met"))
      (case m_Linker_spot => (refine' WM.at_Linker_spot ?a ?i ?l ?c ?k; walk_at "met"))
      (case m_Linker_put => (refine' WM.at_Linker_put ?a ?i ?l ?c ?k; walk_at "met"))
      (case m_Linker_exchange => (refine' WM.at_Linker_exchange ?a ?i ?l ?c ?k; walk_at "met"))
      (case m_Linker_take_out => (refine' WM.at_Linker_take_out ?a ?i ?l ?c ?k; walk_at "met"))
      (case m_Linker_undo => (refine' WM.at_Linker_undo ?a ?i ?l ?c ?k; walk_at "met"))
