import PyProof.Rows.All
import Wide.All
import OpenK.AllK
import Wide.FinOn
import HandS.ForMost
import HandS.Wide
import HandS.Walk
import HandS.IsInst
import HandS.Exc
import HandS.ExcOwn
import HandS.ExcInit
import HandS.ExcIs
import HandS.ExcValue
import HandS.ExcField
import HandS.TryElse
import HandS.ClsMeth
import KE.KExcIs
import HandS.Defaults
import HandS.ForExc
import HandS.NoneIn
import HandS.Style
import HandS.Zip
import HandS.TupMul
import HandS.Text
import KE.SortData
import HandS.TupAny
import HandS.SortInts
import PyProof.StrOps2
import HandS.Strs
import HandS.SetFor
import KE.GoesMore
import HandS.Small
import HandS.Head0
import HandS.Head1
import HandS.Head2
import HandS.HeadEnd
import HandS.HeadHook1
import HandS.HeadHook2
import HandS.HeadHook4
import HandS.WordsExc
import PySem.Challenge.RW_earbells_k31_who_hears
set_option Elab.async false
set_option linter.all false
set_option maxRecDepth 100000
set_option maxHeartbeats 2000000
namespace VL
open PySem PySem.Spec PyProof.Rows L2

/-! ### a caught exception as a thing that stands -/
/-- at a: an exception that was caught, of this class, with this dict -/
def exv (a : Addr) (cls : Value) (d : Option Addr) : HO := .ext fun h => ∃ (oe : Obj) (vs : Array Value), h.get? a = some oe ∧ Zc cls d oe ∧ oe.data = .fields vs
theorem exv_ok {P : Program} {w : World} {H : Hp} {h : Heap} {a : Addr} {cls : Value} {d : Option Addr} {oe : Obj} {vs : Array Value} (e : h.get? a = some oe) (z : Zc cls d oe) (f : oe.data = .fields vs) : ObjOk P w H h a (exv a cls d) :=
  ⟨⟨oe, vs, e, z, f⟩, ⟨oe, e⟩, fun _ _ ⟨o, v, q, r⟩ k => ⟨o, v, k o q, r⟩⟩
theorem exv_at {P : Program} {w : World} {H : Hp} {h : Heap} {a : Addr} {cls : Value} {d : Option Addr} (hok : HOk P w H h) (he : H a = some (exv a cls d)) : ∃ (oe : Obj) (vs : Array Value), h.get? a = some oe ∧ Zc cls d oe ∧ oe.data = .fields vs := by
  have x : ObjOk P w H h a (.ext fun h => ∃ (oe : Obj) (vs : Array Value), h.get? a = some oe ∧ Zc cls d oe ∧ oe.data = .fields vs) := hok a _ he
  exact x.1
section
variable {X : Cx} {pins : List (Addr × Obj)} {σ : L2.St} {H : Hp} {s : Shared} {a : Addr} {o : HO}
/-- what stands in the heap, new since the entry, is from now on told of -/
theorem inv_take (I : Inv X pins σ H s) (n0 : X.s_0.heap.get? a = none) (nL : a ≠ X.env.locals) (nC : ∀ x c, X.env.cells.lookup x = some c → c ≠ a) (nP : ∀ p ∈ X.pn ++ pins, p.1 ≠ a) (hn : H a = none)
    (new : ObjOk X.prog X.w (upd H a o) s.heap a o) : Inv X pins σ (upd H a o) s :=
  ⟨I.ok, I.os, I.bare, ⟨I.base.keep, I.base.slot, fun b u e n hx => by
      rw [upd_ne (fun z => by rw [z, n0] at e; cases e)]
      exact I.base.free b u e n hx, I.base.there, fun b xs q => by
      have := I.base.tups b xs q
      rw [upd_ne (ne_of_none this hn)]; exact this, fun b u v q => by
      have := I.base.frzs b u v q
      rw [upd_ne (ne_of_none this hn)]; exact this, fun b ps q => by
      obtain ⟨m, this⟩ := I.base.tbls b ps q
      exact ⟨m, by rw [upd_ne (ne_of_none this hn)]; exact this⟩⟩, I.loc, I.cell, by rw [upd_ne (Ne.symm nL)]; exact I.free, fun x c e => by rw [upd_ne (nC x c e)]; exact I.freeC x c e,
    fun p hp => by
      obtain ⟨q1, q2, q3⟩ := I.pin p hp
      exact ⟨q1, by rw [upd_ne (nP p hp)]; exact q2, q3⟩, HOk.laidN I.hok (fun _ _ q => q) hn new, I.len⟩
end
/-- what the clause 'except x as n' wishes of an exception of the body -/
def wHas (K : PySem.W.Frag) (c : Value) (i : Nat) (ts : Addr → TS) (Wout : WX) (D : Ends) : WX := fun cls d σ H =>
  ∃ b, PySem.W.exmOne K cls c = some b ∧ (b = true → ∀ a, H a = none → ts a { nx := fun σ' H' => D.nx (σ'.set i none) H', rt := D.rt, bk := fun σ' H' => D.bk (σ'.set i none) H', ct := fun σ' H' => D.ct (σ'.set i none) H' } (σ.set i (some (.ref a))) (upd H a (exv a cls d))) ∧
    (b = false → Wout cls d σ H)
section
variable {X : Cx} {x n : Str} {c : Value} {i : Nat} {body suite : List Stmt} {b₀ : Stmt} {np pos pos' : Pos} {tb : WX → TS} {ts : Addr → TS} {Wout : WX}
/-- try: .. except x as n: ..; the exception stands as a thing from the clause on -/
theorem ps_try_has (hs : X.stack = X.env :: X.outer) (hf : X.env.frame = some X.env.locals) (hex : X.ex = []) (hN : X.N.Nodup) (hi : X.N[i]? = some n) (hln : X.env.kindOf n = some .local) (hc : Names X x c) (tk : Takes X Wout)
    (hb : ∀ (W : WX) (pn : List (Addr × Obj)) (xe : Value → Shared → Prop), Takes (X.tr pn xe) W → PassesOwn (model X.prog X.w) X.A X.env xe → PSs (X.tr pn xe) body (tb W))
    (hsu : ∀ (a : Addr) (pn : List (Addr × Obj)), PSs (X.suite a pn) (b₀ :: suite) (ts a)) :
    PS X (.Try body [.ExceptHandler (some (.Name x np)) (some n) (b₀ :: suite) pos'] [] [] pos) (fun D σ H => tb (wHas X.K c i ts Wout D) D σ H) := by
  refine ⟨fun pins s σ H D I h => ?_⟩
  have ok := I.ok
  have hfr : X.A.frames = some (X.env :: X.outer) := by rw [ok.frames, hs]
  have hloc : Loc X.env.scope n := .inl hln
  refine wpAny_Try_except ?_
  refine wpAny_mono ((hb (wHas X.K c i ts Wout D) (X.pn ++ pins) (fun e s₁ => wpAny (model X.prog X.w) X.A (noteFrame e X.env) (fun _ s₂ => wpAny (model X.prog X.w) X.A (setFlight e none) (fun _ s₃ =>
    wpAny (model X.prog X.w) X.A (handleBy e X.env [.ExceptHandler (some (.Name x np)) (some n) (b₀ :: suite) pos']) (SP X pins D) X.xe s₃) X.xe s₂) X.xe s₁) (fun u s' xx => ?_) PassesOwn.looking).run [] s σ H D (I.toTry _) h) (fun f s1 hsp => ?_) (fun e s1 he => he)
  · obtain ⟨a, B, sI, pins', σ', H', cls, d, rfl, J', nb, up, sky, na, os, ag, b, hb1, hyes, hno⟩ := xx
    have J : Inv X pins σ' H' sI := J'.ofTry ok
    have sky' : Sky B (X.env :: X.outer) a (Zc cls d) X.env.locals s'.heap := by rw [← hs]; exact sky
    show wpAny (model X.prog X.w) X.A (noteFrame (.ref a) X.env) _ _ _
    refine Sky.land Zc.steady hfr hf sky' fun h3 fl3 up3 => ?_
    have J3 : Inv X pins σ' H' { s' with heap := h3 } := J.landed nb fl3.1 (up.trans up3) os ag
    obtain ⟨oe3, vs3, he3, hz3, hd3⟩ := fl3.there
    have notFr : ∀ {h : Heap} {o : Obj} {vs : Array Value}, h.FunFrames B (X.env :: X.outer) → h.get? a = some o → o.data = .fields vs → a ∉ frs (X.env :: X.outer) := fun {h o vs} ff e dd hm => by
      obtain ⟨_, o', e', hnf⟩ := ff.mem hm
      rw [e] at e'; cases e'
      exact hnf _ dd
    have nfr := notFr fl3.2.2.1 he3 hd3
    have nL : a ≠ X.env.locals := fun z => nfr (List.mem_filterMap.mpr ⟨X.env, List.mem_cons_self, by rw [hf, z]⟩)
    have nF : a ∉ X.fs := fun hm => by
      obtain ⟨e, he, q⟩ := List.mem_filterMap.mp hm
      exact nfr (List.mem_filterMap.mpr ⟨e, List.mem_cons_of_mem _ he, q⟩)
    have si : sI.heap.get? a = none := by
      cases q : sI.heap.get? a with
      | none => rfl
      | some o =>
        have z := nb a o q (by rw [hs]; exact nfr)
        rw [fl3.2.1] at z; cases z
    have n0 : X.s_0.heap.get? a = none := by
      cases q : X.s_0.heap.get? a with
      | none => rfl
      | some o =>
        obtain ⟨o', z⟩ := J.base.there a o q (by rw [hex]; exact fun z => nomatch z)
        rw [si] at z; cases z
    have nC : ∀ x c, X.env.cells.lookup x = some c → c ≠ a := fun y c e z => by
      obtain ⟨v, o, ho, _⟩ := J.cell y c e
      rw [z, si] at ho; cases ho
    have nP : ∀ p ∈ X.pn ++ pins, p.1 ≠ a := fun p hp z => by
      obtain ⟨q, _⟩ := J.pin p hp
      rw [z, si] at q; cases q
    have S3 := J3.suite he3 hd3 na nL nF
    refine wpAny_handleBy_cons (codeAny_handlers_test ?_) (by intro q; cases q)
    have LT : PySem.W.Looks (model X.prog X.w) h3 (typeOf (.ref a)) cls := fun A Q E s k q => wpAny_typeOf_ref (k _ _ he3) (by rw [hz3.1]; exact q)
    have LM := PySem.W.exm_one (M := model X.prog X.w) (J3.kIn) LT hb1
    have test : ∀ {Q : Value → Shared → Prop} {E : Value → Shared → Prop}, Q c { s' with heap := h3 } → wpAny (model X.prog X.w) (X.A.mark (some (.ref a))) (eval (.Name x np) X.env) Q E { s' with heap := h3 } := fun {Q E} q => by
      obtain ⟨hg, hdbg, hm | ⟨hm, hv, hnn⟩⟩ := hc
      · exact ld_glob (X := X.suite a ((a, oe3) :: (X.pn ++ pins))) S3 hg hm q hdbg
      · exact ld_blt (X := X.suite a ((a, oe3) :: (X.pn ++ pins))) S3 hg hm hv q hnn hdbg
    refine test (LM.here ?_)
    cases b with
    | true =>
      refine codeAny_handlers_suite_as ?_
      refine HandSPX.lands_againZ fl3 fun h4 fl4 up4 => ?_
      have J4 : Inv X pins σ' H' { s' with heap := h4 } := J.landed nb fl4.1 ((up.trans up3).trans up4) os ag
      obtain ⟨oe4, vs4, he4, hz4, hd4⟩ := fl4.there
      have T4 : Inv X pins σ' (upd H' a (exv a cls d)) { s' with heap := h4 } := inv_take J4 n0 nL nC nP na (exv_ok he4 hz4 hd4)
      have S4 : Inv (X.suite a (X.pn ++ pins)) [] σ' (upd H' a (exv a cls d)) { s' with heap := h4 } :=
        ⟨ok.suite _ _, T4.os, T4.bare, T4.base, T4.loc, T4.cell, T4.free, T4.freeC, fun p hp => T4.pin p (by rw [List.append_nil] at hp; exact hp), T4.hok, T4.len⟩
      have back : ∀ {σ6 : L2.St} {H6 : Hp} {s6 : Shared}, Inv (X.suite a (X.pn ++ pins)) [] σ6 H6 s6 → Inv X pins σ6 H6 s6 := fun {σ6 H6 s6} I6 =>
        ⟨ok, I6.os, I6.bare, I6.base, I6.loc, I6.cell, I6.free, I6.freeC, fun p hp => I6.pin p (List.mem_append_left _ hp), I6.hok, I6.len⟩
      refine store_ok (X := X.suite a (X.pn ++ pins)) (v := .ref a) S4 hN hi hloc rfl (fun s5 S5 => ?_) (.inr hln)
      refine wpAny_mono ((hsu a (X.pn ++ pins)).run [] s5 _ _ _ S5 (hyes rfl a na)) (fun f s6 hsp => ?_) (fun _ _ z => False.elim z)
      have end_ : ∀ {σ6 : L2.St} {H6 : Hp} {Q : Shared → Prop}, Inv (X.suite a (X.pn ++ pins)) [] σ6 H6 s6 → (∀ s7, Inv X pins (σ6.set i none) H6 s7 → Q s7) →
          wpAny (model X.prog X.w) X.A (do bindName X.env n .none; unbindBehindTheSuite X.env n pos') (fun _ s7 => Q s7) X.xe s6 := fun {σ6 H6 Q} S6 hq => gone_ok (back S6) hN hi hln hq
      cases f with
      | next =>
        obtain ⟨σ6, H6, S6, q6⟩ := hsp
        exact end_ S6 fun s7 J7 => ⟨_, _, J7, q6⟩
      | brk =>
        obtain ⟨σ6, H6, S6, q6⟩ := hsp
        exact end_ S6 fun s7 J7 => ⟨_, _, J7, q6⟩
      | cont =>
        obtain ⟨σ6, H6, S6, q6⟩ := hsp
        exact end_ S6 fun s7 J7 => ⟨_, _, J7, q6⟩
      | ret u =>
        obtain ⟨v6, σ6, H6, S6, r6, q6⟩ := hsp
        exact end_ S6 fun s7 J7 => ⟨_, _, _, J7, r6, q6⟩
    | false =>
      show wpAny _ X.A (handleBy (.ref a) X.env []) _ _ _
      refine wpAny_handleBy_nil ?_
      obtain ⟨k1, k2, k3, oe, vs, T, oT, ts', he, hz, hd, h1, hr⟩ := id fl3
      unfold PySem.passOn
      refine wpAny_bind (wpAny_field he hd h1 ?_)
      rw [if_neg (show ¬ ((Value.ref T == Value.none) = true) from by simp)]
      have fin : wpAny (model X.prog X.w) X.A (setFlight (.ref a) X.env.frame) (fun _ s4 => wpAny (model X.prog X.w) X.A (throw (.ref a) : Sem Flow) (SP X pins D) X.xe s4) X.xe { s' with heap := h3 } := by
        rw [hf]
        refine HandSPX.setFlight_upZ fl3 fun h4 hh4 up4 => wpAny_throw (tk _ _ ?_)
        exact ⟨a, B, sI, pins, σ', H', cls, d, rfl, J, nb, (up.trans up3).trans up4, .inr (.inr (by rw [hs]; exact hh4)), na, os, ag, hno rfl⟩
      first
        | exact wpAny_bind (wpAny_pure (wpAny_bind fin))
        | exact wpAny_bind fin
  · cases f with
    | next =>
      obtain ⟨σ', H', J', q⟩ := hsp
      exact wpAny_execs_nil ⟨σ', H', J'.ofTry ok, q⟩
    | brk =>
      obtain ⟨σ', H', J', q⟩ := hsp
      exact ⟨σ', H', J'.ofTry ok, q⟩
    | cont =>
      obtain ⟨σ', H', J', q⟩ := hsp
      exact ⟨σ', H', J'.ofTry ok, q⟩
    | ret u =>
      obtain ⟨v, σ', H', J', r, q⟩ := hsp
      exact ⟨v, σ', H', J'.ofTry ok, r, q⟩
end

/-! ### what is asked of it: its class, its fields -/
/-- what the written part says of an exception class -/
structure XcK (K : PySem.W.Frag) (C : Addr) : Prop where
  hg : PySem.W.findIn K (.ref C) "__getattribute__" = some (some (.builtin "BaseException.__getattribute__"))
  hk : PySem.W.findIn K (.ref C) "__getattr__" = some none
  hs : PySem.W.subIn K (.ref C) (.type "BaseException") = some true
  hd : PySem.W.hasDictIn K C = true
  ha : PySem.W.findIn K (.ref C) "__class__" = some (some (.builtin "object.__class__"))
  hn : PySem.W.specialIn K (.builtin "object.__class__") "__get__" = some (some (.builtin "getset_descriptor.__get__"))
  ht : PySem.W.takesIn K (.builtin "object.__class__") = some true
  hm : PySem.W.mroIn K C (.type "object") = some true
  ty : PySem.W.typeIn K (.ref C) = some (.type "type")
  kp : PySem.W.keepIn K (.ref C) = true
def xcB (K : PySem.W.Frag) (C : Addr) : Bool := decide (PySem.W.findIn K (.ref C) "__getattribute__" = some (some (.builtin "BaseException.__getattribute__"))) && (decide (PySem.W.findIn K (.ref C) "__getattr__" = some none) &&
  (decide (PySem.W.subIn K (.ref C) (.type "BaseException") = some true) && (PySem.W.hasDictIn K C && (decide (PySem.W.findIn K (.ref C) "__class__" = some (some (.builtin "object.__class__"))) &&
  (decide (PySem.W.specialIn K (.builtin "object.__class__") "__get__" = some (some (.builtin "getset_descriptor.__get__"))) && (decide (PySem.W.takesIn K (.builtin "object.__class__") = some true) && (decide (PySem.W.mroIn K C (.type "object") = some true) &&
  (decide (PySem.W.typeIn K (.ref C) = some (.type "type")) && PySem.W.keepIn K (.ref C)))))))))
theorem xcB_ok {K : PySem.W.Frag} {C : Addr} (h : xcB K C = true) : XcK K C := by
  obtain ⟨h1, h⟩ := Bool.and_eq_true_iff.mp h
  obtain ⟨h2, h⟩ := Bool.and_eq_true_iff.mp h
  obtain ⟨h3, h⟩ := Bool.and_eq_true_iff.mp h
  obtain ⟨h4, h⟩ := Bool.and_eq_true_iff.mp h
  obtain ⟨h5, h⟩ := Bool.and_eq_true_iff.mp h
  obtain ⟨h6, h⟩ := Bool.and_eq_true_iff.mp h
  obtain ⟨h7, h⟩ := Bool.and_eq_true_iff.mp h
  obtain ⟨h8, h⟩ := Bool.and_eq_true_iff.mp h
  obtain ⟨h9, h10⟩ := Bool.and_eq_true_iff.mp h
  exact ⟨of_decide_eq_true h1, of_decide_eq_true h2, of_decide_eq_true h3, h4, of_decide_eq_true h5, of_decide_eq_true h6, of_decide_eq_true h7, of_decide_eq_true h8, of_decide_eq_true h9, h10⟩
theorem any_isSome {α : Type} {o : Option α} {p : α → Bool} (h : o.any p = true) : o.isSome = true := by cases o <;> first | rfl | cases h
theorem XcK.cls {K : PySem.W.Frag} {C : Addr} (h : XcK K C) : (PySem.W.clsIn K C).isSome = true := any_isSome h.hd
theorem XcK.ex {K : PySem.W.Frag} {C : Addr} {cls : Value} {b : Bool} (h : XcK K C) (q : PySem.W.subIn K cls (.ref C) = some b) : PySem.W.exmOne K cls (.ref C) = some b := PySem.W.exm_ref h.hs h.hd h.ty q
/-- e.f, e an exception that stands; or an instance -/
def tFldX (K : PySem.W.Frag) (ta : TE) (f : Str) : TE := fun σ H Q => ta σ H fun x H1 => (∃ a C dx fs v, x = .ref a ∧ H1 a = some (.ins C dx fs) ∧ Cls K C ∧ NoAttr K C f ∧ fs.lookup f = some v ∧ Q v H1) ∨
  ∃ (a C dd : Addr) (fs : List (Str × V)) (v : V), x = .ref a ∧ H1 a = some (exv a (.ref C) (some dd)) ∧ H1 dd = some (.xd fs) ∧ XcK K C ∧ PySem.W.findIn K (.ref C) f = some none ∧ fs.lookup f = some v ∧ Q v H1
theorem pe_fldX {X : Cx} {e : Expr} {ta : TE} {f : Str} {pos : Pos} (he : PE X e ta) (hb : attributeBase e f X.env (eval e X.env) = eval e X.env) : PE X (.Attribute e f pos) (tFldX X.K ta f) := by
  refine ⟨fun pins s σ H Q I h => ?_⟩
  refine attr_of hb (thn (he.run pins s σ H _ I h) fun u s1 ⟨x, H1, I1, rx, z⟩ => ?_)
  rcases z with ⟨a, C, dx, fs, v, ex, ea, c, n, l, q⟩ | ⟨a, C, dd, fs, v, ex, ea, ed, T, hno, l, q⟩
  · subst ex
    obtain rfl : u = Value.ref a := rx
    exact getattr_ok I1 ea c n l fun u' s2 I2 ru => ⟨v, H1, I2, ru, q⟩
  · subst ex
    obtain rfl : u = Value.ref a := rx
    obtain ⟨oe, vs, ha, hz, hd⟩ := exv_at I1.hok ea
    have hx : ObjOk X.prog X.w H1 s1.heap dd (.xd fs) := I1.hok dd _ ed
    obtain ⟨mA, hns, hr⟩ := hx
    obtain ⟨od, ho, hl⟩ := lookIn_ns hns
    obtain ⟨u, hu, ru⟩ := RelO.some_of (v := v) (o := mA f) (by rw [← l]; exact hr f)
    have J : PySem.W.InstAt s1.heap a oe C (some od) := ⟨ha, hz.1, by unfold PySem.W.notCls; rw [hd] <;> rfl, by rw [hz.2]; exact ho⟩
    exact HandSPX.exc_get I1.kIn J T.hg T.hk T.hs (PySem.W.findObj_own T.hd hno rfl (by rw [hl, hu])) (handed_of ru) ⟨v, H1, I1.tok _, ru, q⟩
/-- the class of a value, exceptions too -/
def ExT (K : PySem.W.Frag) (H : Hp) (x : V) (t : Value) : Prop := ∃ (a C : Addr) (d : Option Addr), x = .ref a ∧ t = .ref C ∧ XcK K C ∧ H a = some (exv a (.ref C) d) ∧ ∀ dd, d = some dd → ∃ fs, H dd = some (.xd fs)
def rIsiX (K : PySem.W.Frag) : List V → Hp → VK → Prop := fun xs H Q => ∃ (x c : V) (t u : Value) (b : Bool), xs = [x, c] ∧ ClsV c u ∧ (TyX K H x t ∨ ExT K H x t) ∧ PySem.W.kitOne K t u = some b ∧ Q (.bl b) H
theorem call_isiX {X : Cx} : CallR X (.builtin "isinstance") (rIsiX X.K) := by
  intro pins s σ H xs us Q I r h
  obtain ⟨x, c, t, u, b, rfl, k, ty, e, q⟩ := h
  obtain ⟨u1, u2, rfl, r1, r2⟩ := vals2 r
  have e2 := k.eq r2
  subst e2
  rcases ty with ty | ⟨a, C, d, rfl, rfl, T, ea, ed⟩
  · obtain ⟨P, Z, p, hx⟩ := kit_of I r1 ty
    exact PySem.W.kia_one Z I.kIn p e hx fun tk => ⟨.bl b, H, I.tok tk, rfl, q⟩
  · obtain rfl : u1 = Value.ref a := r1
    obtain ⟨oe, vs, ha, hz, hd⟩ := exv_at I.hok ea
    have J : ∃ od, PySem.W.InstAt s.heap a oe C od := by
      cases d with
      | none => exact ⟨none, ha, hz.1, by unfold PySem.W.notCls; rw [hd] <;> rfl, by rw [hz.2]; trivial⟩
      | some dd =>
        obtain ⟨fs, hdd⟩ := ed dd rfl
        have hx : ObjOk X.prog X.w H s.heap dd (.xd fs) := I.hok dd _ hdd
        obtain ⟨mA, hns, _⟩ := hx
        obtain ⟨od, ho, _⟩ := lookIn_ns hns
        exact ⟨some od, ha, hz.1, by unfold PySem.W.notCls; rw [hd] <;> rfl, by rw [hz.2]; exact ho⟩
    obtain ⟨od, J⟩ := J
    exact PySem.W.kia_one (PySem.W.kitx_exc T.cls T.hg T.hk T.hs T.ha T.hn T.ht T.hm) I.kIn J e (fun z => nomatch z) fun tk => ⟨.bl b, H, I.tok tk, rfl, q⟩

/-! ### an exception class with an __init__ of its own -/
/-- the class with its __init__: B.__init__(self, ..); self.f = v -/
def InitX (K : PySem.W.Frag) (f : Str) : Sp := fun vs H Q _ => ∃ (a C : Addr) (v : V), vs = [.ref a, v] ∧ OexC K C ∧ H a = some (exo a C none) ∧ PySem.W.findIn K (.ref C) f = some none ∧
  ∀ dx, H dx = none → dx ≠ a → Q .non (upd (upd H dx (exd dx [(f, v)])) a (exo a C (some dx)))
/-- B.__init__(self, ..), B an own class without __init__ -/
theorem pe_binit {X : Cx} {B : Addr} {mc : Value} {x : Str} {e : Expr} {es : List Expr} {p1 p2 pos : Pos} {pl : Sem Bool} {ta : TA} (gB : PE X (.Name x p1) (tC (.ref B))) (r : ClX.CRead X.K B mc) (kv : PySem.W.findCls X.K (.ref B) mc "__init__" = some (.val (.builtin "ValueError.__init__"))) (ha : PA X (e :: es) ta)
    (hc : eval (.Call (.Attribute (.Name x p1) "__init__" p2) (e :: es) [] pos) X.env = (do
      let ov ← eval (.Name x p1) X.env
      standAt p2.atName
      let (f, first) ← holding [ov] (getMethod ov "__init__" pl)
      callWith pos f first (backTo pos (starEach (e :: es) X.env)) (backToKw pos (keywordEach [] X.env))) := by rfl)
    (he : starEach (e :: es) X.env = (false, eval e X.env) :: starEach es X.env := by rfl) (hpl : (backTo pos (starEach es X.env)).any (·.1) = false := by rfl) :
    PE X (.Call (.Attribute (.Name x p1) "__init__" p2) (e :: es) [] pos) (tVeI X.K ta) := by
  refine ⟨fun pins s σ H Q I h => ?_⟩
  refine PySem.W.methodCall_KW (pl := pl) (thn (gB.run pins s σ H (fun x H1 => x = .ref B ∧ H1 = H) I ⟨rfl, rfl⟩) fun u s1 ⟨x, H1, I1, rx, ex, eH⟩ => ?_) hc
  subst ex
  subst eH
  obtain rfl : u = Value.ref B := rx
  refine PySem.W.method_cls I1.kIn r.ga (PySem.W.cls_value I1.kIn r.rd kv (by decide +kernel) ?_)
  show wpAny _ _ (callWith pos (Value.builtin "ValueError.__init__") [] (backTo pos (starEach (e :: es) X.env)) []) _ _ _
  refine PyProof.Rows.callWith_method1 (thn (ha.run pos pins _ σ _ _ (I1.tok _) h) fun us s1 ⟨vs, H1, I1, r1, a, C, ws, ev, hl, T, ea, q⟩ => ?_) he hpl
  subst ev
  cases r1 with
  | @cons _ u0 _ ur ra rw' =>
    obtain rfl : u0 = Value.ref a := ra
    have hlen : ur.length ≤ sizeLine := by
      rw [← Paired.length rw', sizeLine_eq]
      omega
    exact oinit_ok T I1 ea hlen fun s' J => ⟨.non, H1, J, rfl, q⟩
/-! ### defs called where an exception is handled, that let out none of their own -/
structure RoomQ (k : Nat) (A : Around) : Prop where
  dq : A.depth + 3 * k + 5 < recursionLimit
  uq : A.units + 16 * k + 200 < cLine
theorem RoomQ.of {k : Nat} {A : Around} (r : Room k A) : RoomQ k A := ⟨r.dp, r.un⟩
theorem RoomQ.to {k : Nat} {A : Around} (r : RoomQ k A) : Room k { A with handled := none } := ⟨rfl, r.dq, r.uq⟩
theorem RoomQ.mono {j k : Nat} {A : Around} (r : RoomQ k A) (h : j ≤ k) : RoomQ j A := ⟨by have := r.dq; omega, by have := r.uq; omega⟩
structure FnQ (P : Program) (w : World) (K : PySem.W.Frag) (mg : Str → Option Value) (B0 : Heap) (CX : CXT) (k : Nat) (f : Addr) (fd : FuncData) (ps : List Str) (sp : Sp) : Prop where
  ln : ∀ vs H Q E, sp vs H Q E → vs.length = ps.length
  rn : ∀ (A : Around) (out : List Env) (s : Shared) (H : Hp) (ar : Args) (us : List Value) (vs : List V) (Q : VK) (E : XK), RoomQ k A → Env0 P w K mg B0 A out s H → BindsTo s fd ar (ps.zip us) → Vals vs us → sp vs H Q E → codeAny (model P w) A (.call (.ref f) ar) (CR CX out P w H s Q E) s
theorem FnQ.mono {P : Program} {w : World} {K : PySem.W.Frag} {mg : Str → Option Value} {B0 : Heap} {CX : CXT} {j k : Nat} {f : Addr} {fd : FuncData} {ps : List Str} {sp : Sp} (F : FnQ P w K mg B0 CX j f fd ps sp) (h : j ≤ k) : FnQ P w K mg B0 CX k f fd ps sp :=
  ⟨F.ln, fun A out s H ar us vs Q E hr => F.rn A out s H ar us vs Q E (hr.mono h)⟩
/-- the context of such a def's body -/
abbrev cxQ (CX : CXT) (P : Program) (w : World) (K : PySem.W.Frag) (mg : Str → Option Value) (B0 : Heap) (N : List Str) (q : Str) (sc : Scope) (f : Addr) (cd : Value) (A : Around) (out : List Env) (s : Shared) (H : Hp) (E : XK) : Cx := { cxOf CX P w K mg B0 N q sc f cd A out s H E with calm := false }
theorem env0_q {P : Program} {w : World} {K : PySem.W.Frag} {mg : Str → Option Value} {B0 : Heap} {A : Around} {out : List Env} {s : Shared} {H : Hp} (e : Env0 P w K mg B0 A out s H) : Env0 P w K mg B0 { A with handled := none } out s H :=
  ⟨e.frames, e.mod, e.bs, e.bsz, e.funs, e.frf, e.hok, e.bare⟩
section
variable {CX : CXT} {P : Program} {w : World} {K : PySem.W.Frag} {mg : Str → Option Value} {B0 : Heap} {N ps : List Str} {q x : Str} {sc : Scope} {f : Addr} {cd : Value} {A : Around} {out : List Env} {s s1 : Shared} {H : Hp} {E : XK}
theorem inv_q {σ : L2.St} {Hh : Hp} {pins : List (Addr × Obj)} (I : Inv (cxOf CX P w K mg B0 N q sc f cd { A with handled := none } out s H E) pins σ Hh s1) : Inv (cxQ CX P w K mg B0 N q sc f cd A out s H E) pins σ Hh s1 := by
  have o := I.ok
  refine ⟨⟨o.mod, o.kind, o.glob, o.blt, o.above, o.inj, o.has, o.cab, fun z => Bool.noConfusion (show false = true from z), ?_, o.stk, o.exf, o.bs, o.bsz, o.noex, o.exfs, o.funs, o.frf⟩, I.os, I.bare, I.base, I.loc, I.cell, I.free, I.freeC, I.pin, I.hok, I.len⟩
  exact o.frames
/-- a def, by its body -/
theorem fnq_of {k : Nat} {par : Arguments} {body : List Stmt} {fd : FuncData} {sp : Sp} (F : FunD K x q par body sc [] [] f fd) (S : FnScope N ps sc) (ln : ∀ vs H Q E, sp vs H Q E → vs.length = ps.length)
    (hb : ∀ (cd : Value) (A : Around) (out : List Env) (s : Shared) (H : Hp) (vs : List V) (Q : VK) (E : XK), RoomQ k (A.deeper (envOfC q sc s.heap.objs.size f cd)) → sp vs H Q E →
      ∃ t, PSs (cxQ CX P w K mg B0 N q sc f cd A out s H E) body t ∧ t { nx := fun _ H' => Q .non H', rt := Q } (L2.start N vs) H) : FnQ P w K mg B0 CX (k + 1) f fd ps sp := by
  obtain ⟨oc, od, dV, kV, doc, pm, an, cdv, ct, osl, rfl, lk, hcd, _, _⟩ := F.ex
  refine ⟨ln, fun A out s H ar us vs Q E hr e0 hbd r hsp => ?_⟩
  have hlen := ln _ _ _ _ hsp
  have kin : K.In s.heap := e0.mod.kin.keeps (fun b o e => (e0.bs b o e).1)
  have nol : s.heap.NoLimit := e0.mod.nolimit.keeps (fun b o e => (e0.bs b o e).1)
  have knd : ∀ y ∈ ps.zip us, sc.names.lookup y.1 = some .local ∨ (sc.names.lookup y.1 = some .cell ∧ ((cellsFrom (s.heap.objs.size + 1) sc.names []).lookup y.1).isSome = true) := by
    rintro ⟨n, v⟩ hy
    rcases S.par n (List.of_mem_zip hy).1 with z | z
    · exact Or.inl z
    · exact Or.inr ⟨z, PySem.W.cellsFrom_some _ _ _ (Or.inl z)⟩
  have hdp : A.depth < recursionLimit := by have := hr.dq; omega
  refine codeAny_call_function hdp (kin _ _ lk) rfl S.co S.gen rfl (PySem.W.codeRec_of kin hcd) (hbd _ _ _ _ (wpAny_newFunctionEnv_cells S.kind knd fun env he s1 y => ?_))
  subst he
  have hr2 : RoomQ k (A.deeper (envOfC q sc s.heap.objs.size f cdv)) := ⟨by have := hr.dq; show A.depth + 1 + 3 * k + 5 < _; omega, by have := hr.uq; show A.units + 3 + 16 * k + 200 < _; omega⟩
  obtain ⟨t, ht, hq⟩ := hb cdv A out s H vs Q E hr2 hsp
  have I := inv_q (inv_start (CX := CX) (E := E) (A := { A with handled := none }) S rfl (env0_q e0) hlen r y)
  refine ⟨nol.keeps y.toInCall.keep, codeAny_func (wpAny_mono (ht.run [] s1 (L2.start N vs) H _ I hq) (fun fl s' hs => ?_) fun _ _ hs => hs)⟩
  have fin : ∀ {σ2 : L2.St} {H2 : Hp} {v : V} {u : Value}, Inv (cxQ CX P w K mg B0 N q sc f cdv A out s H E) [] σ2 H2 s' → RelV v u → Q v H2 → CE out P w H s Q u s' := fun J rv z => ⟨_, _, J.os, J.bare, J.base, J.hok, rv, z⟩
  cases fl with
  | ret u => obtain ⟨v, _, _, J, rv, z⟩ := hs; exact fin J rv z
  | next => obtain ⟨_, _, J, z⟩ := hs; exact fin (v := V.non) (u := Value.none) J rfl z
  | brk => obtain ⟨_, _, _, z⟩ := hs; exact z.elim
  | cont => obtain ⟨_, _, _, z⟩ := hs; exact z.elim
end
/-- a call of such a def -/
theorem pe_callQ {X : Cx} {CX : CXT} {k : Nat} {f : Addr} {fd : FuncData} {ps : List Str} {sp : Sp} {E : L2.St → XK} {x : Str} {p pos : Pos} {e : Expr} {es : List Expr} {t : TA} (F : FnQ X.prog X.w X.K X.mg X.base CX k f fd ps sp) (hr : RoomQ k X.A) (hg : Gl X x) (hm : X.mg x = some (.ref f)) (hk : PySem.W.keepIn X.K (.ref f) = true)
    (hb : Binds X.K fd ps []) (hx : ∀ σ, PassesAt CX X σ (E σ)) (ha : PA X (e :: es) t) (hdb : (x == ("__debug__" : Str)) = false) (he : starEach (e :: es) X.env = (false, eval e X.env) :: starEach es X.env) (hpl : (backTo pos (starEach es X.env)).any (·.1) = false) : PE X (.Call (.Name x p) (e :: es) [] pos) (tCallS sp E t) := by
  refine ⟨fun pins s σ H Q I h => wpAny_Call_Name_kw (ld_glob I hg hm ?_ hdb)⟩
  refine PySem.W.callWith_K (h₀ := X.base) I.ok.mod.kin hk (thn (ha.run pos pins s σ H _ I h) fun us s1 ⟨vs, H1, I1, r, z⟩ => ⟨I1.kIn, ?_⟩) he hpl
  have hlen : us.length = ps.length := by rw [← r.length]; exact F.ln _ _ _ _ z
  have bd := hb s1 us I1.kIn (by rw [List.append_nil]; exact hlen)
  rw [List.append_nil] at bd
  refine wpAny_call (codeAny_mono (F.rn X.A X.stack s1 H1 ⟨us, []⟩ us vs Q (E σ) hr I1.env0 bd r z) fun rr s' hq => ?_)
  cases rr with
  | error er => exact hx σ pins H1 s1 er s' I1 hq
  | ok fl => cases fl <;> first | exact I1.after hq | exact False.elim hq
end VL

set_option maxHeartbeats 2000000
namespace VL
open PySem PySem.Spec PyProof.Rows L2

/-! ### trees, flags, environments -/
inductive T where
  | non
  | bl (b : Bool)
  | int (i : Int)
  | str (s : Str)
  | tup (ts : List T)
  | lst (ts : List T)
  | dct (ks vs : List T)
  | dtt (ks vs : List T)
  | ins (c : Str) (fn : List Str) (fv : List T)
  | exc (c : Str) (fn : List Str) (fv : List T)
  | scr (ns : List Int)
  | ktp (ns : List Int)
  deriving Inhabited

/-- sh: shared, never changed; own: the def's own object; lck: own, but walked just now; bor: the caller's own, read only; io: the caller's own, may be changed -/
inductive Fl where
  | sh | own | lck | bor | io
  deriving DecidableEq, Inhabited

abbrev Slot := Option (Fl × T)
abbrev En := List Slot

inductive Out where
  | val (t : T)
  | own (t : T)
def Out.t : Out → T
  | .val t => t
  | .own t => t

inductive Res (α : Type) where
  | ok (a : α) (e : En)
  | exc (x : T) (e : En)
  | stuck

abbrev M (α : Type) := En → Res α
def Res.bind {α β : Type} (r : Res α) (f : α → M β) : Res β := match r with
  | .ok a e => f a e
  | .exc x e => .exc x e
  | .stuck => .stuck
@[simp] theorem bind_ok {α β : Type} (a : α) (e : En) (f : α → M β) : (Res.ok a e).bind f = f a e := rfl
@[simp] theorem bind_exc {α β : Type} (x : T) (e : En) (f : α → M β) : (Res.exc x e : Res α).bind f = .exc x e := rfl
@[simp] theorem bind_stuck {α β : Type} (f : α → M β) : (Res.stuck : Res α).bind f = .stuck := rfl

/-! ### what a tree stands for in the heap -/
section
variable (K : PySem.W.Frag) (mg : Str → Option Value)
/-- a sequence that may be read, apart from D -/
def SqTD (H : Hp) (D : Addr → Prop) (a : Addr) (xs : List V) : Prop :=
  (Rd H a (.tup xs) ∧ ¬ D a) ∨ ∃ (o : Obj) (its : Array Value) (n : Nat), K.lookup a = some o ∧ o.cls = .type "tuple" ∧ o.data = .seq its n ∧ its.size ≤ sizeLine ∧ Vals xs its.toList
def SqLD (H : Hp) (D : Addr → Prop) (a : Addr) (xs : List V) : Prop :=
  (Rd H a (.lst xs) ∧ ¬ D a) ∨ ∃ (o : Obj) (its : Array Value) (n : Nat), K.lookup a = some o ∧ o.cls = .type "list" ∧ o.dict = none ∧ o.data = .seq its n ∧ its.size ≤ sizeLine ∧ Vals xs its.toList
/-- a dict's keys -/
inductive KeyL : List T → List Key → Prop
  | nil : KeyL [] []
  | int {i ks kk} : KeyL ks kk → KeyL (.int i :: ks) (.inl i :: kk)
  | str {s ks kk} : KeyL ks kk → KeyL (.str s :: ks) (.inr s :: kk)
inductive KeyTL : List T → List (List Key) → Prop
  | nil : KeyTL [] []
  | cons {ns ks kk} : KeyTL ks kk → KeyTL (.ktp ns :: ks) (ns.map Sum.inl :: kk)

mutual
inductive Rep (H : Hp) (D : Addr → Prop) : T → V → Prop
  | non : Rep H D .non .non
  | bl (b : Bool) : Rep H D (.bl b) (.bl b)
  | int (i : Int) : Rep H D (.int i) (.int i)
  | str (s : Str) : Rep H D (.str s) (.str s)
  | tup {ts xs a} : SqTD K H D a xs → RepL H D ts xs → Rep H D (.tup ts) (.ref a)
  | lst {ts xs a} : H a = some (.lst xs) → ¬ D a → RepL H D ts xs → Rep H D (.lst ts) (.ref a)
  | scr {ns a} : SqLD K H D a (ns.map V.int) → Rep H D (.scr ns) (.ref a)
  | ktp {ns a} : H a = some (.tup (ns.map V.int)) → ¬ D a → Rep H D (.ktp ns) (.ref a)
  | dct {ks vs kvs a} : Rd H a (.dK kvs) → ¬ D a → KeyL ks (kvs.map (·.1)) → RepL H D vs (kvs.map (·.2)) → Rep H D (.dct ks vs) (.ref a)
  | dtt {ks vs kvs a} : Rd H a (.dT kvs) → ¬ D a → KeyTL ks (kvs.map (·.1)) → RepL H D vs (kvs.map (·.2)) → Rep H D (.dtt ks vs) (.ref a)
  | ins {c fn fv C dx vs a} : mg c = some (.ref C) → H a = some (.ins C dx (fn.zip vs)) → ¬ D a → fn.length = vs.length → RepL H D fv vs → Rep H D (.ins c fn fv) (.ref a)
  | exc0 {c Ca a} : mg c = some (.ref Ca) → H a = some (exv a (.ref Ca) none) → ¬ D a → Rep H D (.exc c [] []) (.ref a)
  | exc {c fn fv Ca a dd vs} : mg c = some (.ref Ca) → H a = some (exv a (.ref Ca) (some dd)) → ¬ D a → H dd = some (.xd (fn.zip vs)) → ¬ D dd → fn.length = vs.length → RepL H D fv vs → Rep H D (.exc c fn fv) (.ref a)
inductive RepL (H : Hp) (D : Addr → Prop) : List T → List V → Prop
  | nil : RepL H D [] []
  | cons {t v ts vs} : Rep H D t v → RepL H D ts vs → RepL H D (t :: ts) (v :: vs)
end
end

section
variable {K : PySem.W.Frag} {mg : Str → Option Value} {H H' : Hp} {D D' : Addr → Prop}
theorem Rd.keep {a : Addr} {u : HO} (k : ∀ a o, H a = some o → ¬ D a → H' a = some o) (h : Rd H a u) (n : ¬ D a) : Rd H' a u := by
  rcases h with h | ⟨o, h⟩
  · exact .inl (k _ _ h n)
  · exact .inr ⟨o, k _ _ h n⟩
theorem Rd.there {a : Addr} {u : HO} (h : Rd H a u) : H a ≠ none := by
  rcases h with h | ⟨o, h⟩ <;> rw [h] <;> exact fun z => nomatch z
theorem noD {a : Addr} (d : ∀ a, D' a → D a ∨ H a = none) (n : ¬ D a) (t : H a ≠ none) : ¬ D' a := fun z => (d a z).elim n t
theorem SqTD.mono {a : Addr} {xs : List V} (k : ∀ a o, H a = some o → ¬ D a → H' a = some o) (d : ∀ a, D' a → D a ∨ H a = none) (h : SqTD K H D a xs) : SqTD K H' D' a xs := by
  rcases h with ⟨h, n⟩ | h
  · exact .inl ⟨Rd.keep k h n, noD d n (Rd.there h)⟩
  · exact .inr h
theorem SqLD.mono {a : Addr} {xs : List V} (k : ∀ a o, H a = some o → ¬ D a → H' a = some o) (d : ∀ a, D' a → D a ∨ H a = none) (h : SqLD K H D a xs) : SqLD K H' D' a xs := by
  rcases h with ⟨h, n⟩ | h
  · exact .inl ⟨Rd.keep k h n, noD d n (Rd.there h)⟩
  · exact .inr h
theorem SqTD.sq {a : Addr} {xs : List V} (h : SqTD K H D a xs) : SqT K H a xs := h.imp (·.1) id
theorem SqLD.sq {a : Addr} {xs : List V} (h : SqLD K H D a xs) : SqL K H a xs := h.imp (·.1) id
mutual
theorem Rep.mono (k : ∀ a o, H a = some o → ¬ D a → H' a = some o) (d : ∀ a, D' a → D a ∨ H a = none) : ∀ {t : T} {v : V}, Rep K mg H D t v → Rep K mg H' D' t v
  | _, _, .non => .non
  | _, _, .bl b => .bl b
  | _, _, .int i => .int i
  | _, _, .str s => .str s
  | _, _, .tup h l => .tup (h.mono k d) (RepL.mono k d l)
  | _, _, .lst h n l => .lst (k _ _ h n) (noD d n (by rw [h]; exact fun z => nomatch z)) (RepL.mono k d l)
  | _, _, .scr h => .scr (h.mono k d)
  | _, _, .ktp h n => .ktp (k _ _ h n) (noD d n (by rw [h]; exact fun z => nomatch z))
  | _, _, .dct h n kl l => .dct (Rd.keep k h n) (noD d n (Rd.there h)) kl (RepL.mono k d l)
  | _, _, .dtt h n kl l => .dtt (Rd.keep k h n) (noD d n (Rd.there h)) kl (RepL.mono k d l)
  | _, _, .ins m h n e l => .ins m (k _ _ h n) (noD d n (by rw [h]; exact fun z => nomatch z)) e (RepL.mono k d l)
  | _, _, .exc0 m h n => .exc0 m (k _ _ h n) (noD d n (by rw [h]; exact fun z => nomatch z))
  | _, _, .exc m h n h2 n2 e l => .exc m (k _ _ h n) (noD d n (by rw [h]; exact fun z => nomatch z)) (k _ _ h2 n2) (noD d n2 (by rw [h2]; exact fun z => nomatch z)) e (RepL.mono k d l)
theorem RepL.mono (k : ∀ a o, H a = some o → ¬ D a → H' a = some o) (d : ∀ a, D' a → D a ∨ H a = none) : ∀ {ts : List T} {vs : List V}, RepL K mg H D ts vs → RepL K mg H' D' ts vs
  | _, _, .nil => .nil
  | _, _, .cons h l => .cons (Rep.mono k d h) (RepL.mono k d l)
end
theorem RepL.length : ∀ {ts : List T} {vs : List V}, RepL K mg H D ts vs → ts.length = vs.length
  | _, _, .nil => rfl
  | _, _, .cons _ l => by simp [RepL.length l]
theorem RepL.get : ∀ {ts : List T} {vs : List V} {i : Nat} {t : T}, RepL K mg H D ts vs → ts[i]? = some t → ∃ v, vs[i]? = some v ∧ Rep K mg H D t v
  | _, _, _, _, .nil, e => by simp at e
  | _, _, 0, _, .cons h _, e => by simp at e; subst e; exact ⟨_, rfl, h⟩
  | _, _, i + 1, _, .cons _ l, e => by simpa using RepL.get (i := i) l (by simpa using e)
theorem RepL.getV : ∀ {ts : List T} {vs : List V} {i : Nat} {v : V}, RepL K mg H D ts vs → vs[i]? = some v → ∃ t, ts[i]? = some t ∧ Rep K mg H D t v
  | _, _, _, _, .nil, e => by simp at e
  | _, _, 0, _, .cons h _, e => by simp at e; subst e; exact ⟨_, rfl, h⟩
  | _, _, i + 1, _, .cons _ l, e => by simpa using RepL.getV (i := i) l (by simpa using e)
theorem RepL.append : ∀ {ts us : List T} {vs ws : List V}, RepL K mg H D ts vs → RepL K mg H D us ws → RepL K mg H D (ts ++ us) (vs ++ ws)
  | _, _, _, _, .nil, h => h
  | _, _, _, _, .cons h l, h' => .cons h (RepL.append l h')
theorem RepL.take : ∀ {ts : List T} {vs : List V} (n : Nat), RepL K mg H D ts vs → RepL K mg H D (ts.take n) (vs.take n)
  | _, _, 0, _ => .nil
  | _, _, _ + 1, .nil => .nil
  | _, _, n + 1, .cons h l => .cons h (RepL.take n l)
theorem RepL.drop : ∀ {ts : List T} {vs : List V} (n : Nat), RepL K mg H D ts vs → RepL K mg H D (ts.drop n) (vs.drop n)
  | _, _, 0, h => h
  | _, _, _ + 1, .nil => .nil
  | _, _, n + 1, .cons _ l => RepL.drop n l
theorem RepL.set {t : T} {v : V} (r : Rep K mg H D t v) : ∀ {ts : List T} {vs : List V} (n : Nat), RepL K mg H D ts vs → RepL K mg H D (ts.set n t) (vs.set n v)
  | _, _, _, .nil => .nil
  | _, _, 0, .cons _ l => .cons r l
  | _, _, n + 1, .cons h l => .cons h (RepL.set r n l)
theorem RepL.reverse : ∀ {ts : List T} {vs : List V}, RepL K mg H D ts vs → RepL K mg H D ts.reverse vs.reverse
  | _, _, .nil => .nil
  | _, _, .cons h l => by rw [List.reverse_cons, List.reverse_cons]; exact RepL.append (RepL.reverse l) (.cons h .nil)
/-- lists of ints, of texts, of truths, as their values -/
theorem RepL.ints : ∀ {ns : List Int} {vs : List V}, RepL K mg H D (ns.map T.int) vs → vs = ns.map V.int
  | [], _, .nil => rfl
  | n :: ns, _, .cons h l => by cases h; rw [RepL.ints l]; rfl
theorem RepL.strs : ∀ {ns : List Str} {vs : List V}, RepL K mg H D (ns.map T.str) vs → vs = ns.map V.str
  | [], _, .nil => rfl
  | n :: ns, _, .cons h l => by cases h; rw [RepL.strs l]; rfl
theorem RepL.bls : ∀ {ns : List Bool} {vs : List V}, RepL K mg H D (ns.map T.bl) vs → vs = ns.map V.bl
  | [], _, .nil => rfl
  | n :: ns, _, .cons h l => by cases h; rw [RepL.bls l]; rfl
theorem RepL.of_ints : ∀ (ns : List Int), RepL K mg H D (ns.map T.int) (ns.map V.int)
  | [] => .nil
  | n :: ns => .cons (.int n) (RepL.of_ints ns)
theorem RepL.of_strs : ∀ (ns : List Str), RepL K mg H D (ns.map T.str) (ns.map V.str)
  | [] => .nil
  | n :: ns => .cons (.str n) (RepL.of_strs ns)
end

/-! ### the def's state -/
section
variable (K : PySem.W.Frag) (mg : Str → Option Value)
def ownA (env : En) (σ : L2.St) (a : Addr) : Prop := ∃ (i : Nat) (f : Fl) (t : T), env[i]? = some (some (f, t)) ∧ (f = .own ∨ f = .lck) ∧ σ[i]? = some (some (.ref a))
def mutA (env : En) (σ : L2.St) (a : Addr) : Prop := ∃ (i : Nat) (f : Fl) (t : T), env[i]? = some (some (f, t)) ∧ (f = .own ∨ f = .io) ∧ σ[i]? = some (some (.ref a))
def parA (env : En) (σ : L2.St) (a : Addr) : Prop := ∃ (i : Nat) (f : Fl) (t : T), env[i]? = some (some (f, t)) ∧ (f = .bor ∨ f = .io) ∧ σ[i]? = some (some (.ref a))
def Dof (D0 : Addr → Prop) (env : En) (σ : L2.St) (a : Addr) : Prop := D0 a ∨ ownA env σ a
/-- the object itself, at a; what is in it lies apart from D -/
def RepTop (H : Hp) (D : Addr → Prop) (t : T) (a : Addr) : Prop := match t with
  | .lst ts => ∃ xs, H a = some (.lst xs) ∧ RepL K mg H D ts xs
  | .dct ks vs => ∃ kvs, H a = some (.dK kvs) ∧ KeyL ks (kvs.map (·.1)) ∧ RepL K mg H D vs (kvs.map (·.2))
  | .dtt ks vs => ∃ kvs, H a = some (.dT kvs) ∧ KeyTL ks (kvs.map (·.1)) ∧ RepL K mg H D vs (kvs.map (·.2))
  | _ => False
structure SR (D0 : Addr → Prop) (H : Hp) (env : En) (σ : L2.St) : Prop where
  len : env.length = σ.length
  sh : ∀ (i : Nat) (t : T), env[i]? = some (some (.sh, t)) → ∃ v : V, σ[i]? = some (some v) ∧ Rep K mg H (Dof D0 env σ) t v
  top : ∀ (i : Nat) (f : Fl) (t : T), env[i]? = some (some (f, t)) → f ≠ .sh → ∃ a : Addr, σ[i]? = some (some (.ref a)) ∧ RepTop K mg H (Dof D0 env σ) t a ∧ ((f = .own ∨ f = .lck) → ¬ D0 a) ∧ ((f = .bor ∨ f = .io) → D0 a)
  inj : ∀ (i j : Nat) (f g : Fl) (t u : T) (a : Addr), env[i]? = some (some (f, t)) → env[j]? = some (some (g, u)) → f ≠ .sh → g ≠ .sh → σ[i]? = some (some (.ref a)) → σ[j]? = some (some (.ref a)) → i = j
  dom : ∀ a, D0 a → H a ≠ none
def Keep (H H' : Hp) (Mu : Addr → Prop) : Prop := ∀ a o, H a = some o → ¬ Mu a → H' a = some o
/-- from one state to a later one -/
structure Step (env : En) (σ : L2.St) (H : Hp) (env' : En) (σ' : L2.St) (H' : Hp) : Prop where
  keep : Keep H H' (mutA env σ)
  own : ∀ a, ownA env' σ' a → ownA env σ a ∨ H a = none
  mu : ∀ a, mutA env' σ' a → mutA env σ a ∨ H a = none
  par : ∀ (i : Nat) (f : Fl) (t : T), env[i]? = some (some (f, t)) → (f = .bor ∨ f = .io ∨ f = .lck) → σ'[i]? = σ[i]? ∧ ∃ t', env'[i]? = some (some (f, t'))
  dom : ∀ a, H a ≠ none → H' a ≠ none
  back : ∀ a, parA env' σ' a → parA env σ a
end
section
variable {K : PySem.W.Frag} {mg : Str → Option Value} {H H1 H' : Hp} {D0 : Addr → Prop} {env env1 env' : En} {σ σ1 σ' : L2.St}
theorem Step.refl : Step env σ H env σ H := ⟨fun _ _ h _ => h, fun _ h => .inl h, fun _ h => .inl h, fun _ _ t h _ => ⟨rfl, t, h⟩, fun _ h => h, fun _ h => h⟩
theorem none_of (d : ∀ a, H a ≠ none → H' a ≠ none) {c : Addr} (h : H' c = none) : H c = none := Classical.byContradiction fun n => d c n h
/-- only new objects -/
theorem Step.grow (s : Same H H') : Step env σ H env σ H' := ⟨fun _ _ h _ => s _ _ h, fun _ h => .inl h, fun _ h => .inl h, fun _ _ t h _ => ⟨rfl, t, h⟩, fun a h => by
  cases q : H a with
  | none => exact absurd q h
  | some o => rw [s a o q]; exact (fun z => nomatch z), fun _ h => h⟩
theorem Step.trans (a : Step env σ H env1 σ1 H1) (b : Step env1 σ1 H1 env' σ' H') : Step env σ H env' σ' H' := by
  refine ⟨fun c o h n => ?_, fun c h => ?_, fun c h => ?_, fun i f t h p => ?_, fun c h => b.dom c (a.dom c h), fun c h => a.back c (b.back c h)⟩
  · refine b.keep c o (a.keep c o h n) fun z => ?_
    rcases a.mu c z with z | z
    · exact n z
    · rw [h] at z; cases z
  · rcases b.own c h with h | h
    · exact a.own c h
    · exact .inr (none_of a.dom h)
  · rcases b.mu c h with h | h
    · exact a.mu c h
    · exact .inr (none_of a.dom h)
  · obtain ⟨e1, t1, h1⟩ := a.par i f t h p
    obtain ⟨e2, t2, h2⟩ := b.par i f t1 h1 p
    exact ⟨e2.trans e1, t2, h2⟩
theorem SR.mut (R : SR K mg D0 H env σ) {a : Addr} (h : mutA env σ a) : Dof D0 env σ a := by
  obtain ⟨i, f, t, e, hf, s⟩ := h
  rcases hf with rfl | rfl
  · exact .inr ⟨i, _, t, e, .inl rfl, s⟩
  · obtain ⟨b, s', _, _, hd⟩ := R.top i _ t e (by decide)
    rw [s] at s'; cases s'
    exact .inl (hd (.inr rfl))
theorem Step.k (R : SR K mg D0 H env σ) (S : Step env σ H env' σ' H') : ∀ a o, H a = some o → ¬ Dof D0 env σ a → H' a = some o := fun a o h n => S.keep a o h fun z => n (R.mut z)
theorem Step.d (S : Step env σ H env' σ' H') : ∀ a, Dof D0 env' σ' a → Dof D0 env σ a ∨ H a = none := fun a h => by
  rcases h with h | h
  · exact .inl (.inl h)
  · exact (S.own a h).imp .inr id
theorem Step.rep (R : SR K mg D0 H env σ) (S : Step env σ H env' σ' H') {t : T} {v : V} (h : Rep K mg H (Dof D0 env σ) t v) : Rep K mg H' (Dof D0 env' σ') t v := h.mono (S.k R) S.d
theorem Step.repL (R : SR K mg D0 H env σ) (S : Step env σ H env' σ' H') {t : List T} {v : List V} (h : RepL K mg H (Dof D0 env σ) t v) : RepL K mg H' (Dof D0 env' σ') t v := h.mono (S.k R) S.d
end
end VL

set_option maxHeartbeats 2000000
namespace VL
open PySem PySem.Spec PyProof.Rows L2

/-! ### the little language -/
/-- builtin functions, by values -/
inductive Bi where
  | len | abs | max | min | sum | any | all | sorted | list | tuple | int | str | divmod | dict | sortedSet | lenSet | ktup
  deriving DecidableEq, Inhabited
/-- methods of builtin types that change nothing -/
inductive Bm where
  | join | split | index | get | rpartition | partition
  deriving DecidableEq, Inhabited
/-- methods that change a list of the def -/
inductive Mm where
  | append | pop | clear | dpop
  deriving DecidableEq, Inhabited
/-- a class in isinstance -/
inductive Kl where
  | ty (n : String) | own (c : Str)
  deriving DecidableEq, Inhabited

mutual
inductive C where
  | slot (i : Nat)
  | cst (t : T)
  | bin (op : Operator) (a b : C)
  | neg (a : C)
  | nt (a : C)
  | and (a b : C)
  | or (a b : C)
  | cmp (op : CmpOp) (a b : C)
  | chain (op op' : CmpOp) (a b c : C)
  | isN (a : C)
  | notN (a : C)
  | fn (f : Str) (args : List C)
  | fno (f : Str) (a : C) (args : List C)
  | mk (c : Str) (args : List C)
  | bi (b : Bi) (args : List C)
  | isi (a : C) (k : Kl)
  | meth (m : Bm) (o : C) (args : List C)
  | mu (m : Mm) (i : Nat) (args : List C)
  | lix (o a : C)
  | ometh (o : C) (m : Str) (args : List C)
  | ix (a b : C)
  | sl (a : C) (lo hi : Option C)
  | rev (a : C)
  | lst (es : List C)
  | tup (es : List C)
  | dic (tk : Bool)
  | dicE (i : Nat)
  | din (neg : Bool) (a : C) (i : Nat)
  | dget (i : Nat) (b : C)
  | lc (elt : C) (it : It) (tg : Tg) (cond : Option C) (own : List Nat)
  | fld (a : C) (f : Str)
inductive It where
  | c (a : C)
  | range1 (a : C)
  | range2 (a b : C)
  | range3 (a b c : C)
  | enum (a : C)
  | zip (a b : C)
inductive Tg where
  | name (i : Nat)
  | tup (ts : List Tg)
  | sub (i : Nat) (ix : C)
end
inductive S where
  | asg (tg : Tg) (e : C)
  | par (i j : Nat) (a b : C)
  | ex (e : C)
  | iff (t : C) (a b : List S)
  | forr (tg : Tg) (it : It) (body : List S) (ws : List Nat)
  | whl (t : C) (body : List S) (ws : List Nat)
  | ret (e : C)
  | retN
  | raise (c : Str) (args : List C)
  | brk
  | pass
  | tryAs (body : List S) (cls : Str) (e v : Nat)
  | tryH (body : List S) (cls : Str) (e : Nat) (hd : List S)
  | tryRet (body : List S) (cls : Str) (a b : C)

/-! ### values -/
def LIM : Nat := 16000000
def BIG : Nat := 2 ^ 4000
def b2z (b : Bool) : Int := if b then 1 else 0
mutual
/-- the data that == compares -/
def toPD : T → PyData
  | .non => .none
  | .bl b => .bool b
  | .int i => .int i
  | .str s => .str s
  | .tup ts => .tuple (toPDL ts)
  | .lst ts => .list (toPDL ts)
  | .scr ns => .list (ns.map PyData.int)
  | _ => .none
def toPDL : List T → List PyData
  | [] => []
  | t :: ts => toPD t :: toPDL ts
end
/-- == -/
def eqT (a b : T) : Bool := PyData.eqv (toPD a) (toPD b)
def eqTL (a b : List T) : Bool := PyData.eqvAll (toPDL a) (toPDL b)
mutual
/-- data that == speaks of: numbers, texts, lists and tuples of them, not too long, not too deep -/
def datT : Nat → T → Bool
  | _, .non => true
  | _, .bl _ => true
  | _, .int _ => true
  | _, .str s => PyData.strOk s
  | 0, .lst _ => false
  | 0, .tup _ => false
  | 0, .scr _ => false
  | d + 1, .lst ts => datTL d ts
  | d + 1, .tup ts => datTL d ts
  | _ + 1, .scr _ => true
  | _, _ => false
def datTL : Nat → List T → Bool
  | _, [] => true
  | d, t :: ts => datT d t && datTL d ts
end
def flatT : T → Bool
  | .non => true
  | .bl _ => true
  | .int _ => true
  | .str _ => true
  | _ => false
def inT (x : T) (xs : List T) : Bool := xs.any fun y => eqT y x
/-- the place of an index -/
def atT (xs : List T) (i : Int) : Option T := atI xs i
def cutT {α : Type} (xs : List α) (lo hi : Option Int) : List α := (xs.drop (HT.sIx xs.length 0 lo)).take (HT.sIx xs.length xs.length hi - HT.sIx xs.length 0 lo)
/-- truth -/
def truT : T → Option Bool
  | .non => some false
  | .bl b => some b
  | .int i => some (i != 0)
  | .str y => if y.length ≤ LIM then some (y.length != 0) else none
  | .lst xs => some !xs.isEmpty
  | .tup xs => some !xs.isEmpty
  | _ => none
def okMul (i j : Int) : Bool := decide (i.natAbs < 2 ^ 64) || decide (j.natAbs < 2 ^ 64) || (decide (i.natAbs < BIG) && decide (j.natAbs < BIG))
def okDiv (j : Int) : Bool := decide (0 < j) && decide (j.natAbs < BIG)
def strRep (x : Str) (n : Nat) : Str := ⟨((List.replicate n x.cps.toList).flatten).toArray⟩
def binT (op : Operator) (a b : T) : Option Out := match op, a, b with
  | .Add, .int i, .int j => some (.val (.int (i + j)))
  | .Add, .str x, .str y => if x.length + y.length ≤ LIM then some (.val (.str (x ++ y))) else none
  | .Add, .lst x, .lst y => if x.length + y.length ≤ LIM then some (.own (.lst (x ++ y))) else none
  | .Add, .tup x, .tup y => if x.length + y.length ≤ LIM then some (.val (.tup (x ++ y))) else none
  | .Sub, .int i, .int j => some (.val (.int (i - j)))
  | .Mult, .int i, .int j => if okMul i j then some (.val (.int (i * j))) else none
  | .Mult, .lst x, .int k => if 0 ≤ k ∧ k ≤ 1000000 ∧ x.length * k.toNat ≤ LIM then some (.own (.lst (List.replicate k.toNat x).flatten)) else none
  | .Mult, .str x, .int k => if 0 ≤ k ∧ k ≤ 1000 ∧ x.length ≤ 1000 then some (.val (.str (strRep x k.toNat))) else none
  | .Mult, .tup x, .int k => if 0 < x.length ∧ 2 ≤ k ∧ k ≤ 1000 ∧ x.length ≤ 1000 then some (.val (.tup (List.replicate k.toNat x).flatten)) else none
  | .Mod, .int i, .int j => if 0 < j then some (.val (.int (i % j))) else none
  | .FloorDiv, .int i, .int j => if okDiv j then some (.val (.int (i / j))) else none
  | .Pow, .int i, .int j => if 0 ≤ j ∧ j ≤ 1000000 ∧ i.natAbs < 2 ^ 64 then some (.val (.int (i ^ j.toNat))) else none
  | _, _, _ => none
def itemsT : T → Option (List T)
  | .lst xs => some xs
  | .tup xs => some xs
  | _ => none
/-- signs of a text, each a text -/
def signsT (s : Str) : List T := s.cps.toList.map fun c => .str ⟨#[c]⟩
def keyT : T → Bool
  | .int _ => true
  | .str _ => true
  | _ => false
/-- is it the key -/
def keyEq : T → T → Bool
  | .int i, .int j => i == j
  | .str i, .str j => i == j
  | .ktp xs, .ktp ys => xs == ys
  | _, _ => false
def cmpT (op : CmpOp) (a b : T) : Option Bool := match op, a, b with
  | .Lt, .int i, .int j => some (decide (i < j))
  | .LtE, .int i, .int j => some (decide (i ≤ j))
  | .Gt, .int i, .int j => some (decide (j < i))
  | .GtE, .int i, .int j => some (decide (j ≤ i))
  | .Eq, .str x, .str y => some (x == y)
  | .NotEq, .str x, .str y => some (!(x == y))
  | .Eq, a, b => if datT 60 a && datT 60 b then some (eqT a b) else none
  | .NotEq, a, b => if datT 60 a && datT 60 b then some (!eqT a b) else none
  | .In, .str c, .str z => if c.length = 1 then some (decide (c.cps.getD 0 0 ∈ z.cps.toList)) else none
  | .In, x, .lst xs => if flatT x && xs.all flatT then some (inT x xs) else none
  | .In, x, .tup xs => if flatT x && xs.all flatT then some (inT x xs) else none
  | .NotIn, .str c, .str z => if c.length = 1 then some (!decide (c.cps.getD 0 0 ∈ z.cps.toList)) else none
  | .NotIn, x, .lst xs => if flatT x && xs.all flatT then some (!inT x xs) else none
  | .NotIn, x, .tup xs => if flatT x && xs.all flatT then some (!inT x xs) else none
  | _, _, _ => none
/-- what stands by a key -/
def getK : List T → List T → T → Option T
  | k :: ks, v :: vs, x => if keyEq k x then some v else getK ks vs x
  | _, _, _ => none
/-- a key of a dict -/
def keyOf : T → T → Bool
  | .dct _ _, .int _ => true
  | .dct _ _, .str _ => true
  | .dtt _ _, .ktp _ => true
  | _, _ => false
def ksT : T → List T × List T
  | .dct ks vs => (ks, vs)
  | .dtt ks vs => (ks, vs)
  | _ => ([], [])
def inD (d k : T) : Option Bool := if keyOf d k then some (getK (ksT d).1 (ksT d).2 k).isSome else none
def getD' (d k : T) : Option T := if keyOf d k then getK (ksT d).1 (ksT d).2 k else none
/-- a key put: the keys, the values -/
def putK' (k v : T) (ks vs : List T) : List T × List T := if ks.any (fun x => keyEq x k) then (ks, List.zipWith (fun x w => if keyEq x k then v else w) ks vs) else (ks ++ [k], vs ++ [v])
def reD (d : T) (p : List T × List T) : T := match d with
  | .dct _ _ => .dct p.1 p.2
  | .dtt _ _ => .dtt p.1 p.2
  | _ => .non
def ixT (a b : T) : Option T := match a, b with
  | .lst xs, .int i => atI xs i
  | .tup xs, .int i => atI xs i
  | .scr xs, .int i => (atI xs i).map .int
  | .str s, .int i => if s.length ≤ LIM then (atI s.cps.toList i).map fun c => .str ⟨#[c]⟩ else none
  | _, _ => none
def slT (a : T) (lo hi : Option Int) : Option Out := match a with
  | .lst xs => some (.own (.lst (cutT xs lo hi)))
  | .scr xs => some (.own (.lst ((cutT xs lo hi).map .int)))
  | .tup xs => some (.val (.tup (cutT xs lo hi)))
  | .str s => if s.length ≤ LIM then some (.val (.str ⟨(cutT s.cps.toList lo hi).toArray⟩)) else none
  | _ => none
def revT (a : T) : Option Out := match a with
  | .lst xs => some (.own (.lst xs.reverse))
  | _ => none
def intsT : List T → Option (List Int)
  | [] => some []
  | .int i :: ts => (intsT ts).map (i :: ·)
  | _ :: _ => none
def strsT : List T → Option (List Str)
  | [] => some []
  | .str i :: ts => (strsT ts).map (i :: ·)
  | _ :: _ => none
def blsT : List T → Option (List Bool)
  | [] => some []
  | .bl i :: ts => (blsT ts).map (i :: ·)
  | _ :: _ => none
/-- ints in their order -/
def insI (x : Int) : List Int → List Int
  | [] => [x]
  | y :: ys => if x ≤ y then x :: y :: ys else y :: insI x ys
def sortI : List Int → List Int
  | [] => []
  | x :: xs => insI x (sortI xs)
def maxI : List Int → Option Int
  | [] => none
  | x :: xs => some (xs.foldl (fun a b => if b > a then b else a) x)
def minI : List Int → Option Int
  | [] => none
  | x :: xs => some (xs.foldl (fun a b => if b < a then b else a) x)
/-- each int once, in their order -/
def dedupI : List Int → List Int
  | [] => []
  | x :: xs => if x ∈ xs then dedupI xs else x :: dedupI xs
/-- tuples of a number, a text, a number -/
abbrev Tri := Int × Str × Int
def triT : List T → Option (List Tri)
  | [] => some []
  | .tup [.int a, .str s, .int b] :: ts => (triT ts).map ((a, s, b) :: ·)
  | _ :: _ => none
def tri1 (p : Tri) : T := .tup [.int p.1, .str p.2.1, .int p.2.2]
def triE (p : Tri) : PyData := .tuple [.int p.1, .str p.2.1, .int p.2.2]
def sortTri (ps : List Tri) : List Tri := ps.mergeSort (PySem.W.dataLe false triE)
/-- sorted(d), its keys ints -/
def sortD (ks : List T) : Option Out := (intsT ks).bind fun ns => if ns.length < 64 then some (.own (.lst ((sortI ns).map .int))) else none
/-- sorted(set(xs)) -/
def ssetT (ts : List T) : Option Out := match ts with
  | [.lst xs] => (intsT xs).bind fun ns => if ns.length < 63 then some (.own (.lst ((sortI (dedupI ns)).map .int))) else none
  | _ => none
/-- pairs of an int and something -/
def pairsT : List T → Option (List (Int × T))
  | [] => some []
  | .tup [.int i, v] :: ts => (pairsT ts).map ((i, v) :: ·)
  | _ :: _ => none
/-- dict(xs), the keys ints, each once -/
def dictT (xs : List T) : Option Out := (pairsT xs).bind fun ps => if (ps.map (·.1)).Nodup then some (.own (.dct (ps.map fun p => .int p.1) (ps.map (·.2)))) else none
def sortT (xs : List T) : Option Out := match intsT xs with
  | some ns => if ns.length < 64 then some (.own (.lst ((sortI ns).map .int))) else none
  | none => (triT xs).bind fun ps => if ps.length ≤ LIM then some (.own (.lst ((sortTri ps).map tri1))) else none
def biT (b : Bi) (ts : List T) : Option Out := match b, ts with
  | .len, [.lst xs] => some (.val (.int xs.length))
  | .len, [.tup xs] => some (.val (.int xs.length))
  | .len, [.scr xs] => some (.val (.int xs.length))
  | .len, [.str s] => if s.length ≤ LIM then some (.val (.int s.length)) else none
  | .abs, [.int i] => some (.val (.int (if i < 0 then -i else i)))
  | .max, [.int i, .int j] => some (.val (.int (if j > i then j else i)))
  | .min, [.int i, .int j] => some (.val (.int (if j < i then j else i)))
  | .max, [.lst xs] => ((intsT xs).bind maxI).map fun m => .val (.int m)
  | .min, [.lst xs] => ((intsT xs).bind minI).map fun m => .val (.int m)
  | .sum, [.lst xs] => (intsT xs).map fun ns => .val (.int ns.sum)
  | .any, [.lst xs] => (blsT xs).map fun ns => .val (.bl (ns.any id))
  | .all, [.lst xs] => (blsT xs).map fun ns => .val (.bl (ns.all id))
  | .sorted, [.lst xs] => sortT xs
  | .list, [.lst xs] => some (.own (.lst xs))
  | .list, [.tup xs] => some (.own (.lst xs))
  | .tuple, [.lst xs] => some (.val (.tup xs))
  | .tuple, [.tup xs] => some (.val (.tup xs))
  | .int, [.int i] => some (.val (.int i))
  | .int, [.bl k] => some (.val (.int (if k then 1 else 0)))
  | .str, [.int i] => if i.natAbs.log2 < 1900 then some (.val (.str (toString i))) else none
  | .ktup, [.lst xs] => (intsT xs).map fun ns => .val (.ktp ns)
  | .sorted, [.dct ks _] => sortD ks
  | .sortedSet, ts => ssetT ts
  | .dict, [.lst xs] => dictT xs
  | .divmod, [.int i, .int j] => if 0 < j ∧ j < 1073741824 then some (.val (.tup [.int (i / j), .int (i % j)])) else none
  | _, _ => none
def methT (m : Bm) (o : T) (ts : List T) : Option Out := match m, o, ts with
  | .join, .str a, [.lst xs] => (strsT xs).bind fun ys => if (ys.map (·.length)).sum + ys.length * a.length ≤ LIM then some (.val (.str (Txt.join a ys))) else none
  | _, _, _ => none
/-- xs.index(u) -/
def idxT (xs : List T) (u : T) : Option Out := if flatT u && xs.all flatT then (xs.findIdx? fun y => eqT y u).map fun j => .val (.int (j : Nat)) else none
def idxL (t u : T) : Option Out := match t with
  | .lst xs => idxT xs u
  | _ => none
def lixK (t : T) : List T → Option Out
  | [u] => idxL t u
  | _ => none
def isLst : T → Bool
  | .lst _ => true
  | _ => false
/-- append, pop, clear: the list behind it and what is told -/
def mutT (m : Mm) (o : T) (ts : List T) : Option (T × T) := match m, o, ts with
  | .append, .lst xs, [t] => if xs.length < LIM then some (.lst (xs ++ [t]), .non) else none
  | .pop, .lst xs, [] => (xs[xs.length - 1]?).map fun y => (.lst xs.dropLast, y)
  | .pop, .lst xs, [.int i] => if i = 0 then (xs[0]?).map fun y => (.lst (xs.eraseIdx 0), y) else none
  | .clear, .lst _, [] => some (.lst [], .non)
  | _, _, _ => none
/-- o[i] = v -/
def setIx (o i v : T) : Option T := match o, i with
  | .lst xs, .int k => (ixN xs.length k).map fun j => .lst (xs.set j v)
  | o, i => if keyOf o i = true ∧ (ksT o).1.length < LIM then some (reD o (putK' i v (ksT o).1 (ksT o).2)) else none
end VL

set_option maxHeartbeats 2000000
namespace VL
open PySem PySem.Spec PyProof.Rows L2

/-! ### defs by values -/
/-- how a def takes a parameter: to read it; to keep it; to change it -/
inductive Pk where
  | rd | es | io
  deriving DecidableEq, Inhabited
/-- how an argument comes: shared; borrowed; to be changed -/
inductive Md where
  | sh | bor | io
  deriving DecidableEq, Inhabited
def Md.fl : Md → Fl
  | .sh => .sh
  | .bor => .bor
  | .io => .io
inductive FRes where
  | ok (o : Out) (outs : List T)
  | exc (x : T) (outs : List T)
  | stuck
structure Fn where
  pk : List Pk
  run : List Md → List T → FRes
/-- what the module holds: its defs, its classes' makers and methods, its exceptions' fields, which class is under which -/
structure Ft where
  fn : Str → Option Fn
  mkf : Str → Option (List Str)
  me : Str → Str → Option Fn
  ex : Str → Option (List Str)
  isa : Str → Str → Bool
  kn : Str → Str → Bool
  cis : Str → Str → Bool := fun _ _ => false

/-! ### operands -/
/-- an operand: a value, or a name of the def -/
inductive Opnd where
  | val (t : T)
  | slot (i : Nat)
def opT (env : En) : Opnd → Option T
  | .val t => some t
  | .slot i => match env[i]? with
    | some (some (_, t)) => some t
    | _ => none
def opTs (env : En) : List Opnd → Option (List T)
  | [] => some []
  | o :: os => match opT env o, opTs env os with
    | some t, some ts => some (t :: ts)
    | _, _ => none
/-- a name whose value goes on: what was the def's own is shared from now on -/
def slotE (i : Nat) : M Out := fun env => match env[i]? with
  | some (some (.sh, t)) => .ok (.val t) env
  | some (some (.own, t)) => .ok (.val t) (env.set i (some (.sh, t)))
  | _ => .stuck
def slotO (i : Nat) : M Opnd := fun env => match env[i]? with
  | some (some _) => .ok (.slot i) env
  | _ => .stuck
def opnd (c : C) (m : M Out) : M Opnd := match c with
  | .slot i => slotO i
  | _ => fun env => (m env).bind fun o => fun env' => .ok (.val o.t) env'
def opnds : List C → List (M Out) → M (List Opnd)
  | c :: cs, m :: ms => fun env => ((opnd c m) env).bind fun o env1 => (opnds cs ms env1).bind fun os env2 => .ok (o :: os) env2
  | [], [] => fun env => .ok [] env
  | _, _ => fun _ => .stuck
/-- values that go on (into a list, a tuple, an object) -/
def vals : List (M Out) → M (List T)
  | m :: ms => fun env => (m env).bind fun o env1 => (vals ms env1).bind fun os env2 => .ok (o.t :: os) env2
  | [] => fun env => .ok [] env
def optO {α : Type} (o : Option α) (env : En) : Res α := match o with
  | some a => .ok a env
  | none => .stuck
def un1 (m : M Opnd) (f : T → Option Out) : M Out := fun env => (m env).bind fun x env1 => optO ((opT env1 x).bind f) env1
def un2 (m n : M Opnd) (f : T → T → Option Out) : M Out := fun env => (m env).bind fun x env1 => (n env1).bind fun y env2 => optO ((opT env2 x).bind fun t => (opT env2 y).bind fun u => f t u) env2
def unL (m : M (List Opnd)) (f : List T → Option Out) : M Out := fun env => (m env).bind fun xs env1 => optO ((opTs env1 xs).bind f) env1
def tru1 (m : M Opnd) : M Bool := fun env => (m env).bind fun x env1 => optO ((opT env1 x).bind truT) env1

/-- a list's index -/
def lixM (o : M Opnd) (as : M (List Opnd)) : M Out := fun env => (o env).bind fun x env1 => if (opT env1 x).any isLst then (as env1).bind fun ys env2 => optO ((opT env2 x).bind fun t => (opTs env2 ys).bind fun ts => lixK t ts) env2 else .stuck
/-! ### arguments of a def -/
def argO : List Pk → List C → List (M Out) → M (List Opnd)
  | .es :: ps, _ :: cs, m :: ms => fun env => (m env).bind fun o env1 => (argO ps cs ms env1).bind fun os env2 => .ok (.val o.t :: os) env2
  | _ :: ps, c :: cs, m :: ms => fun env => ((opnd c m) env).bind fun o env1 => (argO ps cs ms env1).bind fun os env2 => .ok (o :: os) env2
  | [], [], [] => fun env => .ok [] env
  | _, _, _ => fun _ => .stuck
/-- modes, values, the slots that are lent -/
structure Argv where
  md : List Md
  ts : List T
  lent : List Nat
def argvs (env : En) : List Pk → List Opnd → Option Argv
  | .io :: ps, .slot i :: os => match env[i]?, argvs env ps os with
    | some (some (f, t)), some a => if (f = .own ∨ f = .io) ∧ i ∉ a.lent then some ⟨.io :: a.md, t :: a.ts, i :: a.lent⟩ else none
    | _, _ => none
  | .rd :: ps, .slot i :: os => match env[i]?, argvs env ps os with
    | some (some (f, t)), some a => if f = .sh then some ⟨.sh :: a.md, t :: a.ts, a.lent⟩ else if i ∉ a.lent then some ⟨.bor :: a.md, t :: a.ts, i :: a.lent⟩ else none
    | _, _ => none
  | .rd :: ps, .val t :: os => match argvs env ps os with
    | some a => some ⟨.sh :: a.md, t :: a.ts, a.lent⟩
    | _ => none
  | .es :: ps, .val t :: os => match argvs env ps os with
    | some a => some ⟨.sh :: a.md, t :: a.ts, a.lent⟩
    | _ => none
  | [], [] => some ⟨[], [], []⟩
  | _, _ => none
def setT (env : En) (i : Nat) (t : T) : Option En := match env[i]? with
  | some (some (f, _)) => some (env.set i (some (f, t)))
  | _ => none
/-- what a call has changed, written back -/
def writeB : En → List Md → List Opnd → List T → Option En
  | env, .io :: ms, .slot i :: os, t :: ts => (setT env i t).bind fun e => writeB e ms os ts
  | env, _ :: ms, _ :: os, _ :: ts => writeB env ms os ts
  | env, [], [], [] => some env
  | _, _, _, _ => none
def callF (f : Fn) (m : M (List Opnd)) : M Out := fun env => (m env).bind fun ops env1 => match argvs env1 f.pk ops with
  | none => .stuck
  | some a => match f.run a.md a.ts with
    | .ok o outs => match writeB env1 a.md ops outs with
      | some env2 => .ok o env2
      | none => .stuck
    | .exc x outs => match writeB env1 a.md ops outs with
      | some env2 => .exc x env2
      | none => .stuck
    | .stuck => .stuck

/-- the same, its first argument new and given away -/
def callO (f : Fn) (n : M Out) (m : M (List Opnd)) : M Out := fun env => (n env).bind fun o env0 => match o with
  | .val _ => .stuck
  | .own t => (m env0).bind fun ops env1 => match f.pk with
    | .io :: ps => (match argvs env1 ps ops with
      | none => .stuck
      | some a => match f.run (.io :: a.md) (t :: a.ts) with
        | .ok o (_ :: outs) => (match writeB env1 a.md ops outs with
          | some env2 => .ok o env2
          | none => .stuck)
        | .exc x (_ :: outs) => (match writeB env1 a.md ops outs with
          | some env2 => .exc x env2
          | none => .stuck)
        | _ => .stuck)
    | _ => .stuck
/-! ### what a for walks -/
def walkT : T → Option (List T)
  | .lst xs => some xs
  | .tup xs => some xs
  | .scr xs => some (xs.map .int)
  | .str s => if s.length ≤ LIM then some (signsT s) else none
  | _ => none
/-- the items, and which slots are locked meanwhile -/
def walkO (env : En) : Opnd → Option (List T × List Nat)
  | .val t => (walkT t).map fun xs => (xs, [])
  | .slot i => match env[i]? with
    | some (some (f, t)) => if f = .io then none else (walkT t).map fun xs => (xs, if f = .own then [i] else [])
    | _ => none
/-- a list -/
def lstO (env : En) (o : Opnd) : Bool := match opT env o with
  | some (.lst _) => true
  | some (.scr _) => true
  | _ => false
/-- a list or a tuple -/
def seqO (env : En) (o : Opnd) : Bool := match opT env o with
  | some (.lst _) => true
  | some (.scr _) => true
  | some (.tup _) => true
  | _ => false
def lock (env : En) : List Nat → En
  | [] => env
  | i :: is => match env[i]? with
    | some (some (.own, t)) => lock (env.set i (some (.lck, t))) is
    | _ => lock env is
def unlock (env : En) : List Nat → En
  | [] => env
  | i :: is => match env[i]? with
    | some (some (.lck, t)) => unlock (env.set i (some (.own, t))) is
    | _ => unlock env is
def rangeT (lo hi : Int) : List T := (List.range (hi - lo).toNat).map fun (k : Nat) => T.int (lo + k)
def rangeS (lo hi st : Int) : List T := (List.range ((hi - lo + st - 1) / st).toNat).map fun (k : Nat) => T.int (lo + k * st)
def okR (i : Int) : Bool := decide (-(2 ^ 62) ≤ i) && decide (i < 2 ^ 62)
def enumT (xs : List T) : List T := xs.mapIdx fun i x => T.tup [.int i, x]
def zipT : List T → List T → List T
  | x :: xs, y :: ys => .tup [x, y] :: zipT xs ys
  | _, _ => []
def intO (env : En) (o : Opnd) : Option Int := match opT env o with
  | some (.int i) => some i
  | _ => none

/-! ### flows, loops -/
inductive Fw where
  | next | brk | ret (o : Out)
def freeS : Slot → Bool
  | some (.bor, _) => false
  | some (.io, _) => false
  | some (.lck, _) => false
  | _ => true
def wipeE (env : En) : List Nat → En
  | [] => env
  | i :: is => (wipeE env is).set i none
/-- names that the loop makes anew at each turn: forgotten -/
def wipeF (ws : List Nat) : M Unit := fun env => if ws.all (fun i => freeS (env.getD i none)) then .ok () (wipeE env ws) else .stuck
/-- a for: assign, body -/
def forL (ws : List Nat) (asg : T → M Unit) (body : M Fw) : List T → M Fw
  | [] => fun env => (wipeF ws env).bind fun _ env0 => .ok .next env0
  | t :: ts => fun env => (wipeF ws env).bind fun _ env0 => (asg t env0).bind fun _ env1 => (body env1).bind fun f env2 => match f with
    | .next => forL ws asg body ts env2
    | .brk => (wipeF ws env2).bind fun _ env3 => .ok .next env3
    | .ret o => .ok (.ret o) env2
def backE (old env : En) : List Nat → En
  | [] => env
  | i :: is => (backE old env is).set i (old.getD i none)
def shNone : Slot → Bool
  | none => true
  | some (.sh, _) => true
  | _ => false
/-- the block's own names forgotten -/
def wipeM (own : List Nat) : M Unit := fun env => if own.all (fun i => shNone (env.getD i none)) then .ok () (wipeE env own) else .stuck
/-- a list comprehension's turns -/
def lcL (own : List Nat) (asg : T → M Unit) (cond : Option (M Bool)) (elt : M Out) : List T → List T → M (List T)
  | acc, [] => fun env => (wipeM own env).bind fun _ env0 => .ok acc env0
  | acc, t :: ts => fun env => (wipeM own env).bind fun _ env0 => (asg t env0).bind fun _ env1 => match cond with
    | none => (elt env1).bind fun o env2 => if acc.length < LIM then lcL own asg cond elt (acc ++ [o.t]) ts env2 else .stuck
    | some c => (c env1).bind fun b env2 => if b then (elt env2).bind fun o env3 => if acc.length < LIM then lcL own asg cond elt (acc ++ [o.t]) ts env3 else .stuck else lcL own asg cond elt acc ts env2
def whileN (ws : List Nat) (test : M Bool) (body : M Fw) : Nat → M Fw
  | 0 => fun _ => .stuck
  | n + 1 => fun env => (wipeF ws env).bind fun _ env0 => (test env0).bind fun b env1 => if b then (body env1).bind fun f env2 => (match f with
    | .next => whileN ws test body n env2
    | .brk => (wipeF ws env2).bind fun _ env3 => .ok .next env3
    | .ret o => .ok (.ret o) env2) else .ok .next env1
open Classical in
noncomputable def whileL (ws : List Nat) (test : M Bool) (body : M Fw) : M Fw := fun env => if h : ∃ n, whileN ws test body n env ≠ .stuck then whileN ws test body h.choose env else .stuck
/-- the block of a comprehension: its own names as they were, behind it -/
def inBlk (own : List Nat) (m : M (List T)) : M (List T) := fun env => if own.all (fun i => shNone (env.getD i none)) then match m env with
    | .ok a env' => .ok a (backE env env' own)
    | _ => .stuck
  else .stuck
def setName (i : Nat) (o : Out) : M Unit := fun env => match env[i]? with
  | some s => match s with
    | some (.bor, _) => .stuck
    | some (.io, _) => .stuck
    | some (.lck, _) => .stuck
    | _ => match o with
      | .val t => .ok () (env.set i (some (.sh, t)))
      | .own t => .ok () (env.set i (some (.own, t)))
  | none => .stuck
def setSub (i : Nat) (m : M Opnd) (v : T) : M Unit := fun env => match env[i]? with
  | some (some _) => (m env).bind fun x env1 => match opT env1 x, env1[i]? with
    | some k, some (some (f, o)) => if f = .own ∨ f = .io then (match setIx o k v with
      | some o' => .ok () (env1.set i (some (f, o')))
      | none => .stuck) else .stuck
    | _, _ => .stuck
  | _ => .stuck
def mutS2 (m : Mm) (i : Nat) (ts : List T) : M Out := fun env1 => match env1[i]? with
  | some (some (f, o)) => if f = .own ∨ f = .io then (match mutT m o ts with
    | some (o', r) => .ok (.val r) (env1.set i (some (f, o')))
    | none => .stuck) else .stuck
  | _ => .stuck
def mutS (m : Mm) (i : Nat) (ms : M (List T)) : M Out := fun env => match env[i]? with
  | some (some (.own, .lst _)) => (ms env).bind fun ts env1 => mutS2 m i ts env1
  | some (some (.io, .lst _)) => (ms env).bind fun ts env1 => mutS2 m i ts env1
  | _ => .stuck
def isiT (Φ : Ft) (t : T) (k : Kl) : Option Bool := match t, k with
  | .exc c _ _, .own d => if (Φ.ex c).isSome && (Φ.ex d).isSome then some (Φ.isa c d) else none
  | .exc c _ _, .ty n => if (Φ.ex c).isSome && decide (n = "ValueError") then some true else none
  | .non, .own d => if (Φ.ex d).isSome then some false else none
  | .bl _, .own d => if (Φ.ex d).isSome then some false else none
  | .int _, .own d => if (Φ.ex d).isSome then some false else none
  | .str _, .own d => if (Φ.ex d).isSome then some false else none
  | .lst _, .own d => if (Φ.ex d).isSome then some false else none
  | .tup _, .own d => if (Φ.ex d).isSome then some false else none
  | .non, .ty n => if n ∈ ["int", "bool", "str", "list", "tuple"] then some false else none
  | .bl _, .ty n => if n ∈ ["int", "bool", "str", "list", "tuple"] then some (n == "int" || n == "bool") else none
  | .int _, .ty n => if n ∈ ["int", "bool", "str", "list", "tuple"] then some (n == "int") else none
  | .str _, .ty n => if n ∈ ["int", "bool", "str", "list", "tuple"] then some (n == "str") else none
  | .lst _, .ty n => if n ∈ ["int", "bool", "str", "list", "tuple"] then some (n == "list") else none
  | .tup _, .ty n => if n ∈ ["int", "bool", "str", "list", "tuple"] then some (n == "tuple") else none
  | .dct _ _, .ty n => if n ∈ ["int", "bool", "str", "list", "tuple"] then some false else none
  | .ins c _ _, .own d => if (Φ.mkf c).isSome && (Φ.mkf d).isSome then some (Φ.cis c d) else none
  | _, _ => none
def look (f : Str) : List Str → List T → Option T
  | n :: ns, t :: ts => if f = n then some t else look f ns ts
  | _, _ => none
def fldT (Φ : Ft) (f : Str) : T → Option T
  | .ins c fn fv => if Φ.kn c f then look f fn fv else none
  | .exc c fn fv => match Φ.ex c with
    | some fs => if f ∈ fs then look f fn fv else none
    | none => none
  | _ => none
/-- is it caught by the clause -/
def catX (Φ : Ft) (cls : Str) : T → Option Bool
  | .exc c _ _ => if (Φ.ex c).isSome && (Φ.ex cls).isSome then some (Φ.isa c cls) else none
  | _ => none
/-- v = e, e the caught exception; e's name goes -/
def keepX (i j : Nat) (x : T) : M Fw := fun env => if i = j then .stuck else (setName i (.val x) env).bind fun _ env1 => (setName j (.val x) env1).bind fun _ env2 => .ok .next (env2.set i none)

/-- a clause's suite, e the caught exception; e's name goes -/
def handX (i : Nat) (x : T) (m : M Fw) : M Fw := fun env => (setName i (.val x) env).bind fun _ env1 => match m env1 with
  | .ok .next env2 => (match env2[i]? with
    | some (some (.sh, _)) => .ok .next (env2.set i none)
    | _ => .stuck)
  | _ => .stuck
/-! ### the evaluator -/
section
variable (Φ : Ft)
mutual
def evE : C → M Out
  | .slot i => slotE i
  | .cst t => fun env => .ok (.val t) env
  | .bin op a b => un2 (opnd a (evE a)) (opnd b (evE b)) (binT op)
  | .neg a => un1 (opnd a (evE a)) fun t => match t with
    | .int i => some (.val (.int (-i)))
    | _ => none
  | .nt a => un1 (opnd a (evE a)) fun t => match t with
    | .bl b => some (.val (.bl (!b)))
    | _ => none
  | .and a b => fun env => (opnd a (evE a) env).bind fun x env1 => match opT env1 x with
    | some (.bl k) => if k then evE b env1 else .ok (.val (.bl false)) env1
    | _ => .stuck
  | .or a b => fun env => (opnd a (evE a) env).bind fun x env1 => match opT env1 x with
    | some (.bl k) => if k then .ok (.val (.bl true)) env1 else evE b env1
    | _ => .stuck
  | .cmp op a b => un2 (opnd a (evE a)) (opnd b (evE b)) fun t u => (cmpT op t u).map fun r => .val (.bl r)
  | .chain op op' a b c => fun env => (opnd a (evE a) env).bind fun x env1 => (opnd b (evE b) env1).bind fun y env2 => match (opT env2 x).bind fun t => (opT env2 y).bind fun u => cmpT op t u with
    | some true => (opnd c (evE c) env2).bind fun z env3 => optO ((opT env3 y).bind fun u => (opT env3 z).bind fun w => (cmpT op' u w).map fun r => .val (.bl r)) env3
    | some false => .ok (.val (.bl false)) env2
    | none => .stuck
  | .isN a => un1 (opnd a (evE a)) fun t => some (.val (.bl (match t with
    | .non => true
    | _ => false)))
  | .notN a => un1 (opnd a (evE a)) fun t => some (.val (.bl (match t with
    | .non => false
    | _ => true)))
  | .fn f args => match Φ.fn f with
    | some F => callF F (argO F.pk args (evL args))
    | none => fun _ => .stuck
  | .fno f a args => match Φ.fn f with
    | some F => callO F (evE a) (argO F.pk.tail args (evL args))
    | none => fun _ => .stuck
  | .mk c args => match Φ.mkf c with
    | some fn => fun env => (vals (evL args) env).bind fun ts env1 => if ts.length = fn.length then .ok (.val (.ins c fn ts)) env1 else .stuck
    | none => fun _ => .stuck
  | .bi b args => unL (opnds args (evL args)) (biT b)
  | .isi a k => un1 (opnd a (evE a)) fun t => (isiT Φ t k).map fun r => .val (.bl r)
  | .meth m o args => fun env => (opnd o (evE o) env).bind fun x env1 => match opT env1 x with
    | some (.str z) => (opnds args (evL args) env1).bind fun ys env2 => optO ((opTs env2 ys).bind fun ts => methT m (.str z) ts) env2
    | _ => .stuck
  | .mu m i args => mutS m i (vals (evL args))
  | .lix o a => lixM (opnd o (evE o)) (opnds [a] [evE a])
  | .ometh o m args => fun env => (opnd o (evE o) env).bind fun x env1 => match opT env1 x with
    | some (.ins c fn fv) => match Φ.me c m, look m fn fv with
      | some F, none => callF F (fun e => (argO F.pk.tail args (evL args) e).bind fun ys e2 => .ok (x :: ys) e2) env1
      | _, _ => .stuck
    | _ => .stuck
  | .ix a b => un2 (opnd a (evE a)) (opnd b (evE b)) fun t u => (ixT t u).map Out.val
  | .sl a lo hi => fun env => (opnd a (evE a) env).bind fun x env1 => (evP lo env1).bind fun l env2 => (evP hi env2).bind fun h env3 => optO ((opT env3 x).bind fun t => slT t l h) env3
  | .rev a => un1 (opnd a (evE a)) revT
  | .lst es => fun env => (vals (evL es) env).bind fun ts env1 => if ts.length ≤ LIM then .ok (.own (.lst ts)) env1 else .stuck
  | .tup es => fun env => (vals (evL es) env).bind fun ts env1 => if ts.length ≤ LIM then .ok (.val (.tup ts)) env1 else .stuck
  | .dicE i => fun env => match env[i]? with
    | some (some (.sh, .int k)) => .ok (.own (.dct [.int k] [.lst []])) env
    | _ => .stuck
  | .dic tk => fun env => .ok (.own (if tk then .dtt [] [] else .dct [] [])) env
  | .din neg a i => un2 (opnd a (evE a)) (slotO i) fun k d => (inD d k).map fun r => .val (.bl (neg != r))
  | .dget i b => un2 (slotO i) (opnd b (evE b)) fun d k => (getD' d k).map Out.val
  | .lc elt it tg cond own => fun env => (evI it env).bind fun w env1 => (inBlk own (lcL own (evG tg) (evC cond) (evE elt) [] w.1) (lock env1 w.2)).bind fun ts env2 => .ok (.own (.lst ts)) (unlock env2 w.2)
  | .fld a f => un1 (opnd a (evE a)) fun t => (fldT Φ f t).map Out.val
/-- as a test -/
def evT : C → M Bool
  | .nt a => fun env => (evT a env).bind fun b env1 => .ok (!b) env1
  | .and a b => fun env => (evT a env).bind fun k env1 => if k then evT b env1 else .ok false env1
  | .or a b => fun env => (evT a env).bind fun k env1 => if k then .ok true env1 else evT b env1
  | .slot i => tru1 (slotO i)
  | .cst t => fun env => optO (truT t) env
  | .bin op a b => tru1 (opnd (.bin op a b) (un2 (opnd a (evE a)) (opnd b (evE b)) (binT op)))
  | .cmp op a b => fun env => (opnd a (evE a) env).bind fun x env1 => (opnd b (evE b) env1).bind fun y env2 => optO ((opT env2 x).bind fun t => (opT env2 y).bind fun u => cmpT op t u) env2
  | .chain op op' a b c => fun env => (opnd a (evE a) env).bind fun x env1 => (opnd b (evE b) env1).bind fun y env2 => match (opT env2 x).bind fun t => (opT env2 y).bind fun u => cmpT op t u with
    | some true => (opnd c (evE c) env2).bind fun z env3 => optO ((opT env3 y).bind fun u => (opT env3 z).bind fun w => cmpT op' u w) env3
    | some false => .ok false env2
    | none => .stuck
  | .isN a => fun env => (opnd a (evE a) env).bind fun x env1 => optO ((opT env1 x).bind fun t => some (match t with
    | .non => true
    | _ => false)) env1
  | .notN a => fun env => (opnd a (evE a) env).bind fun x env1 => optO ((opT env1 x).bind fun t => some (match t with
    | .non => false
    | _ => true)) env1
  | .fn f args => match Φ.fn f with
    | some F => tru1 (opnd (.fn f args) (callF F (argO F.pk args (evL args))))
    | none => fun _ => .stuck
  | .bi b args => tru1 (opnd (.bi b args) (unL (opnds args (evL args)) (biT b)))
  | .din neg a i => fun env => (opnd a (evE a) env).bind fun x env1 => (slotO i env1).bind fun y env2 => optO ((opT env2 x).bind fun k => (opT env2 y).bind fun d => (inD d k).map fun r => neg != r) env2
  | .isi a k => tru1 (opnd (.isi a k) (un1 (opnd a (evE a)) fun t => (isiT Φ t k).map fun r => .val (.bl r)))
  | .ix a b => tru1 (opnd (.ix a b) (un2 (opnd a (evE a)) (opnd b (evE b)) fun t u => (ixT t u).map Out.val))
  | _ => fun _ => .stuck
def evL : List C → List (M Out)
  | [] => []
  | c :: cs => evE c :: evL cs
/-- a part of a slice -/
def evP : Option C → M (Option Int)
  | none => fun env => .ok none env
  | some c => fun env => (opnd c (evE c) env).bind fun x env1 => optO ((intO env1 x).map some) env1
def evC : Option C → Option (M Bool)
  | none => none
  | some c => some (evT c)
def evI : It → M (List T × List Nat)
  | .c a => fun env => (opnd a (evE a) env).bind fun x env1 => optO (walkO env1 x) env1
  | .range1 a => fun env => (opnd a (evE a) env).bind fun x env1 => optO ((intO env1 x).bind fun j => if okR j then some (rangeT 0 j, []) else none) env1
  | .range2 a b => fun env => (opnd a (evE a) env).bind fun x env1 => (opnd b (evE b) env1).bind fun y env2 => optO ((intO env2 x).bind fun i => (intO env2 y).bind fun j => if okR i && okR j then some (rangeT i j, []) else none) env2
  | .range3 a b c => fun env => (opnd a (evE a) env).bind fun x env1 => (opnd b (evE b) env1).bind fun y env2 => (opnd c (evE c) env2).bind fun z env3 =>
      optO ((intO env3 x).bind fun i => (intO env3 y).bind fun j => (intO env3 z).bind fun k => if okR i && okR j && decide (0 < k) && decide (k < 1000000) then some (rangeS i j k, []) else none) env3
  | .enum a => fun env => (opnd a (evE a) env).bind fun x env1 => optO (if seqO env1 x then (walkO env1 x).map fun w => (enumT w.1, w.2) else none) env1
  | .zip a b => fun env => (opnd a (evE a) env).bind fun x env1 => (opnd b (evE b) env1).bind fun y env2 => optO (if lstO env2 x && lstO env2 y then (walkO env2 x).bind fun w => (walkO env2 y).map fun v => (zipT w.1 v.1, w.2 ++ v.2) else none) env2
def evG : Tg → T → M Unit
  | .name i => fun t => setName i (.val t)
  | .sub i c => fun t => setSub i (opnd c (evE c)) t
  | .tup gs => fun t => match itemsT t with
    | some xs => if xs.length = gs.length then evGs gs xs else fun _ => .stuck
    | none => fun _ => .stuck
def evGs : List Tg → List T → M Unit
  | [] => fun ts env => match ts with
    | [] => .ok () env
    | _ => .stuck
  | g :: gs => fun ts env => match ts with
    | t :: ts => (evG g t env).bind fun _ env1 => evGs gs ts env1
    | [] => .stuck
end
mutual
noncomputable def evS : S → M Fw
  | .asg (.name i) e => fun env => (evE Φ e env).bind fun o env1 => (setName i o env1).bind fun _ env2 => .ok .next env2
  | .asg g e => fun env => (evE Φ e env).bind fun o env1 => (evG Φ g o.t env1).bind fun _ env2 => .ok .next env2
  | .par i j a b => fun env => (vals (evL Φ [a, b]) env).bind fun ts env1 => match ts with
    | [t, u] => if i = j then .stuck else (setName i (.val t) env1).bind fun _ env2 => (setName j (.val u) env2).bind fun _ env3 => .ok .next env3
    | _ => .stuck
  | .ex e => fun env => (evE Φ e env).bind fun _ env1 => .ok .next env1
  | .iff t a b => fun env => (evT Φ t env).bind fun k env1 => if k then evSs a env1 else evSs b env1
  | .forr g it body ws => fun env => (evI Φ it env).bind fun w env1 => (forL ws (evG Φ g) (evSs body) w.1 (lock env1 w.2)).bind fun f env2 => .ok f (unlock env2 w.2)
  | .whl t body ws => whileL ws (evT Φ t) (evSs body)
  | .ret (.slot i) => fun env => match env[i]? with
    | some (some (.sh, t)) => .ok (.ret (.val t)) env
    | some (some (.own, t)) => .ok (.ret (.own t)) (env.set i none)
    | _ => .stuck
  | .ret e => fun env => (evE Φ e env).bind fun o env1 => .ok (.ret o) env1
  | .retN => fun env => .ok (.ret (.val .non)) env
  | .raise c args => match Φ.ex c with
    | some fs => if args.length = fs.length then fun env => (vals (evL Φ args) env).bind fun ts env1 => if ts.length = fs.length then .exc (.exc c fs ts) env1 else .stuck else fun _ => .stuck
    | none => fun _ => .stuck
  | .brk => fun env => .ok .brk env
  | .pass => fun env => .ok .next env
  | .tryAs body cls i j => fun env => match evSs body env with
    | .ok f env1 => .ok f env1
    | .exc x env1 => (match catX Φ cls x with
      | some true => keepX i j x env1
      | some false => .exc x env1
      | none => .stuck)
    | .stuck => .stuck
  | .tryH body cls i hd => fun env => match evSs body env with
    | .ok f env1 => .ok f env1
    | .exc x env1 => (match catX Φ cls x with
      | some true => handX i x (evSs hd) env1
      | some false => .exc x env1
      | none => .stuck)
    | .stuck => .stuck
  | .tryRet body cls a b => fun env => match evSs body env with
    | .ok .next env1 => (evE Φ b env1).bind fun o env2 => .ok (.ret o) env2
    | .exc x env1 => (match catX Φ cls x with
      | some true => (evE Φ a env1).bind fun o env2 => .ok (.ret o) env2
      | some false => .exc x env1
      | none => .stuck)
    | _ => .stuck
noncomputable def evSs : List S → M Fw
  | [] => fun env => .ok .next env
  | s :: ss => fun env => (evS s env).bind fun f env1 => match f with
    | .next => evSs ss env1
    | f => .ok f env1
end
end
/-! ### a def -/
structure Df where
  pk : List Pk
  nn : Nat
  body : List S
def env0 (n : Nat) (md : List Md) (ts : List T) : En := (md.zip ts).map (fun p => some (p.1.fl, p.2)) ++ List.replicate (n - ts.length) none
/-- the parameters behind the run: what is io is as the slot has it -/
def outsOf (env : En) : Nat → List Md → List T → Option (List T)
  | _, [], [] => some []
  | k, m :: ms, t0 :: ts0 => match m with
    | .io => (match env[k]?, outsOf env (k + 1) ms ts0 with
      | some (some (.io, t)), some ts => some (t :: ts)
      | _, _ => none)
    | _ => (outsOf env (k + 1) ms ts0).map fun ts => t0 :: ts
  | _, _, _ => none
def Res.toF (md : List Md) (ts : List T) : Res Fw → FRes
  | .ok (.ret o) env => match outsOf env 0 md ts with
    | some outs => .ok o outs
    | none => .stuck
  | .ok .next env => match outsOf env 0 md ts with
    | some outs => .ok (.val .non) outs
    | none => .stuck
  | .exc x env => match outsOf env 0 md ts with
    | some outs => .exc x outs
    | none => .stuck
  | _ => .stuck
noncomputable def runDf (Φ : Ft) (d : Df) (md : List Md) (ts : List T) : FRes :=
  if md.length = d.pk.length ∧ ts.length = d.pk.length then (evSs Φ d.body (env0 d.nn md ts)).toF md ts else .stuck
noncomputable def Df.fn (Φ : Ft) (d : Df) : Fn := ⟨d.pk, runDf Φ d⟩
end VL

set_option maxHeartbeats 2000000
namespace VL
open PySem PySem.Spec PyProof.Rows L2

/-! ### from the text to the little language -/
structure Ct where
  N : List Str
  sc : Scope
  tk : Bool
  fnc : Str → Bool
  gl : Str → Option T
  dfs : List Str
  cls : List Str
  mts : List Str
  exs : List Str
  ws : Nat → List Nat
  hfs : List Str := []
  hot : Bool := false
def ixN0 : List Str → Str → Option Nat
  | [], _ => none
  | y :: ys, x => if y = x then some 0 else (ixN0 ys x).map (· + 1)
def visB (sc : Scope) (x : Str) : Bool := match sc.names.lookup x with
  | some .local => true
  | some .cell => true
  | some .free => true
  | _ => false
def locB (sc : Scope) (x : Str) : Bool := match sc.names.lookup x with
  | some .local => true
  | some .cell => true
  | _ => false
def glB (sc : Scope) (x : Str) : Bool := match sc.names.lookup x with
  | some .globalImplicit => true
  | _ => false
def okName (x : Str) : Bool := decide (x ≠ "__debug__") && decide (x ≠ "__classdict__") && decide (x ≠ "__name__")
/-- the slot of a name that is read; that is stored -/
def ixOf (Γ : Ct) (x : Str) : Option Nat := if visB Γ.sc x && okName x then ixN0 Γ.N x else none
def stB (Γ : Ct) (x : Str) : Bool := match Γ.sc.names.lookup x with
  | some .local => true
  | some .cell => Γ.fnc x
  | _ => false
def ixSt (Γ : Ct) (x : Str) : Option Nat := if stB Γ x && okName x then ixN0 Γ.N x else none
/-- the slot of a name that holds a dict (told by the table: row 0 of ws) -/
def dkOf (Γ : Ct) (e : Expr) : Option Nat := match e with
  | .Name x _ => (ixOf Γ x).bind fun i => if i ∈ Γ.ws 0 then some i else none
  | _ => none
/-- tuple([a - b for ..]): a tuple of numbers that may be a key -/
def ktOf (b : Bi) (args : List Expr) : Bi := match b, args with
  | .tuple, [.ListComp (.BinOp _ _ _ _) _ _ _] => .ktup
  | b, _ => b
/-- set(e), alone -/
def setArg (a : Expr) (as : List Expr) : Option Expr := match a, as with
  | .Call (.Name y _) [e] [] _, [] => if y = "set" then some e else none
  | _, _ => none
theorem setArg_is {a e : Expr} {as : List Expr} (h : setArg a as = some e) : ∃ p pos, a = .Call (.Name "set" p) [e] [] pos ∧ as = [] := by
  unfold setArg at h
  split at h
  · split at h
    · rename_i hy
      subst hy
      cases h
      exact ⟨_, _, rfl, rfl⟩
    · cases h
  · cases h
def constC : Const → Option T
  | .none => some .non
  | .bool b => some (.bl b)
  | .int i => some (.int i)
  | .str s => some (.str s)
  | _ => none
def biTab : List (Str × Bi) := [("len", .len), ("abs", .abs), ("max", .max), ("min", .min), ("sum", .sum), ("any", .any), ("all", .all), ("sorted", .sorted), ("list", .list), ("tuple", .tuple), ("int", .int), ("str", .str), ("divmod", .divmod), ("dict", .dict)]
def biOf (x : Str) : Option Bi := biTab.lookup x
def tyNames : List (Str × String) := [("int", "int"), ("bool", "bool"), ("str", "str"), ("list", "list"), ("tuple", "tuple"), ("ValueError", "ValueError")]
def bmOf (x : Str) : Option Bm := if x = "join" then some .join else none
def mmOf (x : Str) : Option Mm := if x = "append" then some .append else if x = "pop" then some .pop else if x = "clear" then some .clear else none
def relS' (scope sc : Scope) : Scope := relS scope sc
def ownOf (N : List Str) : List (Str × NameKind) → List (Str × Nat)
  | [] => []
  | (x, k) :: r => match k with
    | .local => (match ixN0 N x with | some i => (x, i) :: ownOf N r | none => ownOf N r)
    | .cell => (match ixN0 N x with | some i => (x, i) :: ownOf N r | none => ownOf N r)
    | _ => ownOf N r
def isTupE : Expr → Bool
  | .Tuple _ _ _ => true
  | _ => false
def isSet : Expr → Bool
  | .Set _ _ _ => true
  | _ => false
def isSlice : Expr → Bool
  | .Slice _ _ _ _ => true
  | _ => false
def isLC : Expr → Bool
  | .ListComp _ _ _ _ => true
  | .SetComp _ _ _ _ => true
  | .DictComp _ _ _ _ _ => true
  | _ => false
def minus1 : Expr → Bool
  | .UnaryOp .USub (.Constant (.int 1) _ _) _ => true
  | _ => false
def isNone : Expr → Bool
  | .Constant .none _ _ => true
  | _ => false
/-- a new pack is handed in -/
def isPack : List Expr → Bool
  | .Call (.Name y _) _ _ _ :: _ => y == "_law_pack"
  | _ => false
/-- a comprehension as a value -/
def lcOk (Γ : Ct) (tg e : Expr) : Bool := match e with
  | .ListComp _ _ _ _ => true
  | e => !isLC e
mutual
/-- the slots that a target stores -/
def tgSlots : Tg → List Nat
  | .name i => [i]
  | .sub _ _ => []
  | .tup gs => tgSlotsL gs
def tgSlotsL : List Tg → List Nat
  | [] => []
  | g :: gs => tgSlots g ++ tgSlotsL gs
end
mutual
def compE : Nat → Ct → Expr → Option C
  | 0, _, _ => none
  | n + 1, Γ, e => match e with
    | .Name x _ => match ixOf Γ x with
      | some i => some (.slot i)
      | none => if glB Γ.sc x && okName x then (Γ.gl x).map .cst else none
    | .Constant c _ _ => (constC c).map .cst
    | .BinOp a op b _ => (compE n Γ a).bind fun a' => (compE n Γ b).map fun b' => .bin op a' b'
    | .UnaryOp .USub a _ => (compE n Γ a).map .neg
    | .UnaryOp .Not a _ => (compE n Γ a).map .nt
    | .BoolOp op (a :: es) pos => match es with
      | [] => none
      | [b] => (compE n Γ a).bind fun a' => (compE n Γ b).map fun b' => (match op with | .And => .and a' b' | .Or => .or a' b')
      | b :: c :: r => (compE n Γ a).bind fun a' => (compE n Γ (.BoolOp op (b :: c :: r) pos)).map fun b' => (match op with | .And => .and a' b' | .Or => .or a' b')
    | .Compare a [op] [b] _ => match op with
      | .Is => if isNone b then (compE n Γ a).map .isN else none
      | .IsNot => if isNone b then (compE n Γ a).map .notN else none
      | .In => (match dkOf Γ b with
        | some i => (compE n Γ a).map fun a' => .din false a' i
        | none => if isSet b then none else (compE n Γ a).bind fun a' => (compE n Γ b).map fun b' => .cmp .In a' b')
      | .NotIn => (match dkOf Γ b with
        | some i => (compE n Γ a).map fun a' => .din true a' i
        | none => if isSet b then none else (compE n Γ a).bind fun a' => (compE n Γ b).map fun b' => .cmp .NotIn a' b')
      | op => if isSet b then none else (compE n Γ a).bind fun a' => (compE n Γ b).map fun b' => .cmp op a' b'
    | .Compare a [op, op'] [b, c] _ => if isSet b || isSet c then none else (compE n Γ a).bind fun a' => (compE n Γ b).bind fun b' => (compE n Γ c).map fun c' => .chain op op' a' b' c'
    | .Call (.Name x _) args [] _ => if glB Γ.sc x && okName x then compCall n Γ x args else none
    | .Call (.Attribute o m apos) args [] cpos => if (apos.endLine == cpos.line) && decide (args.length ≤ 5) then compMeth n Γ o m args else none
    | .Subscript a (.Slice lo hi st _) _ => match st with
      | none => (compE n Γ a).bind fun a' => (compO n Γ lo).bind fun l' => (compO n Γ hi).map fun h' => .sl a' l' h'
      | some s => match lo, hi with
        | none, none => if minus1 s then (compE n Γ a).map .rev else none
        | _, _ => none
    | .Subscript a b _ => match dkOf Γ a with
      | some i => (compE n Γ b).map fun b' => .dget i b'
      | none => (compE n Γ a).bind fun a' => (compE n Γ b).map fun b' => .ix a' b'
    | .List es _ => (compL n Γ es).map .lst
    | .Tuple es _ _ => (compL n Γ es).map .tup
    | .Attribute (.Name x _) f _ => (ixOf Γ x).map fun i => .fld (.slot i) f
    | .Dict [] [] _ => some (.dic Γ.tk)
    | .Dict [some (.Name x _)] [.List [] _] _ => (ixOf Γ x).map .dicE
    | .ListComp elt [⟨tg, iter, ifs, 0⟩] scope _ => (compLC n Γ elt tg iter ifs scope).map fun p => .lc p.1 p.2.1 p.2.2.1 p.2.2.2.1 p.2.2.2.2
    | _ => none
def compLC : Nat → Ct → Expr → Expr → Expr → List Expr → Scope → Option (C × It × Tg × Option C × List Nat)
  | 0, _, _, _, _, _, _ => none
  | n + 1, Γ, elt, tg, iter, ifs, scope =>
    if blkC Γ.N Γ.sc scope (ownOf Γ.N scope.names) && !isSet iter && !Γ.hot then
      (compI n Γ tg iter).bind fun it => (compG n { Γ with sc := relS' scope Γ.sc, fnc := fun y => scope.names.lookup y == some .cell } tg).bind fun g =>
        if (tgSlots g).all (fun i => decide (i ∈ (ownOf Γ.N scope.names).map (·.2))) then
          (compE n { Γ with sc := relS' scope Γ.sc, fnc := fun y => scope.names.lookup y == some .cell } elt).bind fun c =>
            (compIf n { Γ with sc := relS' scope Γ.sc, fnc := fun y => scope.names.lookup y == some .cell } ifs).map fun k => (c, it, g, k, (ownOf Γ.N scope.names).map (·.2))
        else none
    else none
def compIf : Nat → Ct → List Expr → Option (Option C)
  | 0, _, _ => none
  | _ + 1, _, [] => some none
  | n + 1, Γ, [t] => (compE n Γ t).map some
  | _ + 1, _, _ => none
def compL : Nat → Ct → List Expr → Option (List C)
  | 0, _, _ => none
  | _ + 1, _, [] => some []
  | n + 1, Γ, e :: es => (compE n Γ e).bind fun c => (compL n Γ es).map fun cs => c :: cs
def compO : Nat → Ct → Option Expr → Option (Option C)
  | 0, _, _ => none
  | _ + 1, _, none => some none
  | n + 1, Γ, some e => (compE n Γ e).map some
def compCall : Nat → Ct → Str → List Expr → Option C
  | 0, _, _, _ => none
  | n + 1, Γ, x, args =>
    if x ∈ Γ.dfs then (if args.isEmpty || (Γ.hot && !decide (x ∈ Γ.hfs)) then none else if isPack args = true ∧ Γ.hot = false then (match args with
        | [] => none
        | a :: as => (compE n Γ a).bind fun a' => (compL n Γ as).map fun cs => .fno x a' cs) else (compL n Γ args).map fun cs => .fn x cs)
    else if x ∈ Γ.cls then (if args.isEmpty || Γ.hot then none else (compL n Γ args).map fun cs => .mk x cs)
    else if x = "isinstance" then match args with
      | [a, .Name k _] => if glB Γ.sc k && okName k then (compE n Γ a).bind fun a' => (match tyNames.lookup k with
        | some t => some (.isi a' (.ty t))
        | none => if k ∈ Γ.exs then some (.isi a' (.own k)) else if k ∈ Γ.cls ∧ Γ.hot = false then some (.isi a' (.own k)) else none) else none
      | _ => none
    else match args with
      | [] => none
      | a :: as => if Γ.hot then none else if x = "sorted" ∧ (setArg a as).isSome = true ∧ glB Γ.sc "set" = true then ((setArg a as).bind fun e => compL n Γ [e]).map fun cs => .bi .sortedSet cs else (biOf x).bind fun b => (compL n Γ (a :: as)).map fun cs => .bi (ktOf b (a :: as)) cs
def compMeth : Nat → Ct → Expr → Str → List Expr → Option C
  | 0, _, _, _, _ => none
  | n + 1, Γ, o, m, args =>
    if m ∈ Γ.mts then (if Γ.hot then none else (compE n Γ o).bind fun o' => (compL n Γ args).map fun cs => .ometh o' m cs)
    else match mmOf m, o with
      | some k, .Name x _ => (ixOf Γ x).bind fun i => (compL n Γ args).map fun cs => .mu k i cs
      | _, _ => if m = "index" then (match args with
        | [a] => (compE n Γ o).bind fun o' => (compE n Γ a).map fun a' => .lix o' a'
        | _ => none) else if args.isEmpty then none else (bmOf m).bind fun k => (compE n Γ o).bind fun o' => (compL n Γ args).map fun cs => .meth k o' cs
def compI : Nat → Ct → Expr → Expr → Option It
  | 0, _, _, _ => none
  | n + 1, Γ, tg, e => match e with
    | .Call (.Name x p) args [] p2 => if glB Γ.sc x && okName x then
        (if x = "range" then match args with
          | [a] => (compE n Γ a).map .range1
          | [a, b] => (compE n Γ a).bind fun a' => (compE n Γ b).map fun b' => .range2 a' b'
          | [a, b, c] => (compE n Γ a).bind fun a' => (compE n Γ b).bind fun b' => (compE n Γ c).map fun c' => .range3 a' b' c'
          | _ => none
        else if x = "enumerate" then match args with
          | [a] => if isTupE tg then (compE n Γ a).map .enum else none
          | _ => none
        else if x = "zip" then match args with
          | [a, b] => if isTupE tg then (compE n Γ a).bind fun a' => (compE n Γ b).map fun b' => .zip a' b' else none
          | _ => none
        else (compE n Γ e).map .c) else none
    | e => (compE n Γ e).map .c
def compG : Nat → Ct → Expr → Option Tg
  | 0, _, _ => none
  | n + 1, Γ, e => match e with
    | .Name x _ => (ixSt Γ x).map .name
    | .Tuple es _ _ => if Γ.hot then none else (compGs n Γ es).map .tup
    | .Subscript (.Name x _) i _ => if isSlice i then none else (ixOf Γ x).bind fun j => (compE n Γ i).map fun i' => .sub j i'
    | _ => none
def compGs : Nat → Ct → List Expr → Option (List Tg)
  | 0, _, _ => none
  | _ + 1, _, [] => some []
  | n + 1, Γ, e :: es => (compG n Γ e).bind fun c => (compGs n Γ es).map fun cs => c :: cs
end
def locK (Γ : Ct) (x : Str) : Bool := match Γ.sc.names.lookup x with
  | some .local => true
  | _ => false
mutual
def compS : Nat → Ct → Stmt → Option S
  | 0, _, _ => none
  | n + 1, Γ, s => match s with
    | .Assign [tg] e _ => if isTupE tg && isTupE e then (match tg, e with
        | .Tuple [.Name x px, .Name y py] _ _, .Tuple [a, b] _ _ =>
          if (match Γ.sc.names.lookup x with | some .local => true | _ => false) && (match Γ.sc.names.lookup y with | some .local => true | _ => false) && decide (x ≠ y) && (px.line == py.line) && !(foldedForSure 8 a && foldedForSure 8 b) && !(constantsAlone 8 a && constantsAlone 8 b) && !Γ.hot then
            (ixSt Γ x).bind fun i => (ixSt Γ y).bind fun j => (compE n Γ a).bind fun a' => (compE n Γ b).map fun b' => .par i j a' b'
          else none
        | _, _ => none)
      else if lcOk Γ tg e then (compG n Γ tg).bind fun g => (compE n Γ e).map fun e' => .asg g e' else none
    | .Expr e _ => if isLC e then none else (compE n Γ e).map .ex
    | .If t a b _ => (compE n Γ t).bind fun t' => (compSs n Γ a).bind fun a' => (compSs n Γ b).map fun b' => .iff t' a' b'
    | .For tg iter body [] pos => if isSet iter || Γ.hot then none else (compG n Γ tg).bind fun g => (compI n Γ tg iter).bind fun it => (compSs n Γ body).map fun b => .forr g it b (Γ.ws pos.line)
    | .While t body [] pos => (compE n Γ t).bind fun t' => (compSs n Γ body).map fun b => .whl t' b (Γ.ws pos.line)
    | .Return (some e) _ => (compE n Γ e).map .ret
    | .Return none _ => some .retN
    | .Raise (some (.Call (.Name x _) args [] _)) none _ => if glB Γ.sc x && okName x && decide (x ∈ Γ.exs) && !Γ.hot then (match args with
        | [.Constant (.str _) _ _] => some (.raise x [])
        | [a] => (compE n Γ a).map fun c => .raise x [c]
        | _ => none) else none
    | .Break _ => some .brk
    | .Pass _ => some .pass
    | .Try body [.ExceptHandler (some (.Name x _)) (some nm) [.Assign [.Name v _] (.Name nm' _) _] _] [] [] _ =>
      if glB Γ.sc x && okName x && decide (x ∈ Γ.exs) && decide (nm = nm') && locK Γ nm && !Γ.hot then
        (compSs n Γ body).bind fun b => (ixSt Γ nm).bind fun i => (ixSt Γ v).map fun j => .tryAs b x i j
      else none
    | .Try body [.ExceptHandler (some (.Name x _)) none [.Return (some (.Constant a _ _)) _] _] [.Return (some (.Constant b _ _)) _] [] _ =>
      if glB Γ.sc x && okName x && decide (x ∈ Γ.exs) && !Γ.hot then
        (compSs n Γ body).bind fun c => (constC a).bind fun a' => (constC b).map fun b' => .tryRet c x (.cst a') (.cst b')
      else none
    | .Try body [.ExceptHandler (some (.Name x _)) (some nm) (st :: sts) _] [] [] _ =>
      if glB Γ.sc x && okName x && decide (x ∈ Γ.exs) && locK Γ nm && !Γ.hot then
        (compSs n Γ body).bind fun b => (ixSt Γ nm).bind fun i => (compSs n { Γ with hot := true } (st :: sts)).map fun h => .tryH b x i h
      else none
    | _ => none
def compSs : Nat → Ct → List Stmt → Option (List S)
  | 0, _, _ => none
  | _ + 1, _, [] => some []
  | n + 1, Γ, s :: ss => (compS n Γ s).bind fun c => (compSs n Γ ss).map fun cs => c :: cs
end
end VL

set_option maxHeartbeats 2000000
namespace VL
open PySem PySem.Spec PyProof.Rows L2

/-! ### changes of the def's state -/
theorem set_cases {α : Type} {l : List α} {i j : Nat} {x y : α} (h : (l.set i x)[j]? = some y) : (j = i ∧ y = x ∧ i < l.length) ∨ (j ≠ i ∧ l[j]? = some y) := by
  by_cases e : j = i
  · subst e
    by_cases hl : j < l.length
    · rw [List.getElem?_set_self hl] at h
      exact .inl ⟨rfl, (Option.some.inj h).symm, hl⟩
    · rw [List.getElem?_eq_none (by simpa using hl)] at h; cases h
  · rw [List.getElem?_set_ne (Ne.symm e)] at h
    exact .inr ⟨e, h⟩
theorem get_lt {α : Type} {l : List α} {i : Nat} {x : α} (h : l[i]? = some x) : i < l.length := (List.getElem?_eq_some_iff.mp h).1
section
variable {K : PySem.W.Frag} {mg : Str → Option Value} {H H' : Hp} {D0 D0' : Addr → Prop} {env env' : En} {σ σ' : L2.St}
/-- the objects that are lent or the def's own -/
theorem SR.dofDom (R : SR K mg D0 H env σ) {a : Addr} (h : Dof D0 env σ a) : H a ≠ none := by
  rcases h with h | ⟨i, f, t, e, hf, s⟩
  · exact R.dom a h
  · obtain ⟨b, s', rt, _, _⟩ := R.top i f t e (by rcases hf with rfl | rfl <;> decide)
    rw [s] at s'; cases s'
    unfold RepTop at rt
    split at rt
    · obtain ⟨_, h, _⟩ := rt; rw [h]; exact fun z => nomatch z
    · obtain ⟨_, h, _⟩ := rt; rw [h]; exact fun z => nomatch z
    · obtain ⟨_, h, _⟩ := rt; rw [h]; exact fun z => nomatch z
    · exact rt.elim
theorem RepTop.mono {D D' : Addr → Prop} {t : T} {a : Addr} (k : ∀ a o, H a = some o → ¬ D a → H' a = some o) (d : ∀ a, D' a → D a ∨ H a = none) (ha : H' a = H a) (h : RepTop K mg H D t a) : RepTop K mg H' D' t a := by
  unfold RepTop at h ⊢
  split at h
  · obtain ⟨xs, h1, h2⟩ := h; exact ⟨xs, ha.trans h1, h2.mono k d⟩
  · obtain ⟨xs, h1, h2, h3⟩ := h; exact ⟨xs, ha.trans h1, h2, h3.mono k d⟩
  · obtain ⟨xs, h1, h2, h3⟩ := h; exact ⟨xs, ha.trans h1, h2, h3.mono k d⟩
  · exact h
/-- THE MASTER LEMMA: each slot is as it was, or new -/
theorem SR.to (R : SR K mg D0 H env σ) (hl : env'.length = σ'.length)
    (hk : ∀ a o, H a = some o → ¬ Dof D0 env σ a → H' a = some o)
    (hD : ∀ a, Dof D0' env' σ' a → Dof D0 env σ a ∨ H a = none)
    (hsh : ∀ (i : Nat) (t : T), env'[i]? = some (some (.sh, t)) → (env[i]? = some (some (.sh, t)) ∧ σ'[i]? = σ[i]?) ∨ ∃ v : V, σ'[i]? = some (some v) ∧ Rep K mg H' (Dof D0' env' σ') t v)
    (htop : ∀ (i : Nat) (f : Fl) (t : T), env'[i]? = some (some (f, t)) → f ≠ .sh →
      (∃ f0 : Fl, env[i]? = some (some (f0, t)) ∧ f0 ≠ .sh ∧ σ'[i]? = σ[i]? ∧ ∀ a, σ[i]? = some (some (.ref a)) → H' a = H a) ∨ ∃ a : Addr, σ'[i]? = some (some (.ref a)) ∧ RepTop K mg H' (Dof D0' env' σ') t a)
    (hcl : ∀ (i : Nat) (f : Fl) (t : T) (a : Addr), env'[i]? = some (some (f, t)) → f ≠ .sh → σ'[i]? = some (some (.ref a)) → ((f = .own ∨ f = .lck) → ¬ D0' a) ∧ ((f = .bor ∨ f = .io) → D0' a))
    (hinj : ∀ (i j : Nat) (f g : Fl) (t u : T) (a : Addr), env'[i]? = some (some (f, t)) → env'[j]? = some (some (g, u)) → f ≠ .sh → g ≠ .sh → σ'[i]? = some (some (.ref a)) → σ'[j]? = some (some (.ref a)) → i = j)
    (hdom : ∀ a, D0' a → H' a ≠ none) : SR K mg D0' H' env' σ' := by
  refine ⟨hl, fun i t e => ?_, fun i f t e hf => ?_, hinj, hdom⟩
  · rcases hsh i t e with ⟨e0, s⟩ | h
    · obtain ⟨v, sv, r⟩ := R.sh i t e0
      exact ⟨v, s.trans sv, r.mono hk hD⟩
    · exact h
  · rcases htop i f t e hf with ⟨f0, e0, hf0, s, ha⟩ | ⟨a, s, r⟩
    · obtain ⟨a, sa, r, _, _⟩ := R.top i f0 t e0 hf0
      obtain ⟨c1, c2⟩ := hcl i f t a e hf (s.trans sa)
      exact ⟨a, s.trans sa, r.mono hk hD (ha a sa), c1, c2⟩
    · obtain ⟨c1, c2⟩ := hcl i f t a e hf s
      exact ⟨a, s, r, c1, c2⟩
theorem same_dom (s : Same H H') {a : Addr} (h : H a ≠ none) : H' a ≠ none := by
  cases q : H a with
  | none => exact absurd q h
  | some o => rw [s a o q]; exact fun z => nomatch z
theorem SR.same (R : SR K mg D0 H env σ) (s : Same H H') : SR K mg D0 H' env σ :=
  R.to R.len (fun a o h _ => s a o h) (fun _ h => .inl h) (fun i t e => .inl ⟨e, rfl⟩) (fun i f t e hf => .inl ⟨f, e, hf, rfl, fun a sa => by
    obtain ⟨b, sb, rt, _⟩ := R.top i f t e hf
    rw [sa] at sb; cases sb
    have hd : H a ≠ none := by
      unfold RepTop at rt
      split at rt
      · obtain ⟨_, h, _⟩ := rt; rw [h]; exact fun z => nomatch z
      · obtain ⟨_, h, _⟩ := rt; rw [h]; exact fun z => nomatch z
      · obtain ⟨_, h, _⟩ := rt; rw [h]; exact fun z => nomatch z
      · exact rt.elim
    cases q : H a with
    | none => exact absurd q hd
    | some o => exact s a o q⟩)
    (fun i f t a e hf s => by obtain ⟨b, sb, _, c1, c2⟩ := R.top i f t e hf; rw [s] at sb; cases sb; exact ⟨c1, c2⟩) R.inj (fun a h => same_dom s (R.dom a h))
theorem RepTop.there {D : Addr → Prop} {t : T} {a : Addr} (rt : RepTop K mg H D t a) : ∃ o, H a = some o := by
  unfold RepTop at rt
  split at rt
  · obtain ⟨_, h, _⟩ := rt; exact ⟨_, h⟩
  · obtain ⟨_, h, _⟩ := rt; exact ⟨_, h⟩
  · obtain ⟨_, h, _⟩ := rt; exact ⟨_, h⟩
  · exact rt.elim
/-- one more address to be kept apart, new -/
def orA (D : Addr → Prop) (a : Addr) : Addr → Prop := fun b => D b ∨ b = a
theorem SR.ext (R : SR K mg D0 H env σ) (s : Same H H') {a : Addr} (hn : H a = none) (ha : H' a ≠ none) : SR K mg (orA D0 a) H' env σ := by
  refine R.to R.len (fun b o h _ => s b o h) (fun b h => ?_) (fun i t e => .inl ⟨e, rfl⟩) (fun i f t e hf => .inl ⟨f, e, hf, rfl, fun b sb => ?_⟩) (fun i f t b e hf sb => ?_) R.inj (fun b h => ?_)
  · rcases h with (h | rfl) | h
    · exact .inl (.inl h)
    · exact .inr hn
    · exact .inl (.inr h)
  · obtain ⟨c, sc, rt, _⟩ := R.top i f t e hf
    rw [sb] at sc; cases sc
    obtain ⟨o, ho⟩ := rt.there
    rw [ho]; exact s b o ho
  · obtain ⟨c, sc, rt, c1, c2⟩ := R.top i f t e hf
    rw [sb] at sc; cases sc
    obtain ⟨o, ho⟩ := rt.there
    refine ⟨fun hf' z => ?_, fun hf' => .inl (c2 hf')⟩
    rcases z with z | rfl
    · exact c1 hf' z
    · rw [hn] at ho; cases ho
  · rcases h with h | rfl
    · exact same_dom s (R.dom b h)
    · exact ha
/-- the address apart is forgotten -/
theorem SR.unext {a : Addr} (R : SR K mg (orA D0 a) H env σ) (hb : ∀ (i : Nat) (f : Fl) (t : T), env[i]? = some (some (f, t)) → (f = .bor ∨ f = .io) → σ[i]? ≠ some (some (.ref a))) : SR K mg D0 H env σ := by
  refine R.to R.len (fun b o h _ => h) (fun b h => ?_) (fun i t e => .inl ⟨e, rfl⟩) (fun i f t e hf => .inl ⟨f, e, hf, rfl, fun b sb => rfl⟩) (fun i f t b e hf sb => ?_) R.inj (fun b h => R.dom b (.inl h))
  · rcases h with h | h
    · exact .inl (.inl (.inl h))
    · exact .inl (.inr h)
  · obtain ⟨c, sc, rt, c1, c2⟩ := R.top i f t e hf
    rw [sb] at sc; cases sc
    refine ⟨fun hf' z => c1 hf' (.inl z), fun hf' => ?_⟩
    rcases c2 hf' with z | rfl
    · exact z
    · exact absurd sb (hb i f t e hf')
/-- a name gets a shared value -/
theorem SR.setSh (R : SR K mg D0 H env σ) {i : Nat} {t : T} {v : V} (r : Rep K mg H (Dof D0 env σ) t v) : SR K mg D0 H (env.set i (some (.sh, t))) (σ.set i (some v)) := by
  have hD : ∀ a, Dof D0 (env.set i (some (.sh, t))) (σ.set i (some v)) a → Dof D0 env σ a := fun a h => by
    rcases h with h | ⟨j, f, u, e, hf, s⟩
    · exact .inl h
    · rcases set_cases e with ⟨_, z, _⟩ | ⟨hj, e⟩
      · cases z; rcases hf with z | z <;> cases z
      · rcases set_cases s with ⟨z, _⟩ | ⟨_, s⟩
        · exact absurd z hj
        · exact .inr ⟨j, f, u, e, hf, s⟩
  have ne : ∀ {j : Nat} {f : Fl} {u : T}, (env.set i (some (.sh, t)))[j]? = some (some (f, u)) → f ≠ .sh → j ≠ i ∧ env[j]? = some (some (f, u)) := fun {j f u} e hf => by
    rcases set_cases e with ⟨_, z, _⟩ | h
    · cases z; exact absurd rfl hf
    · exact h
  refine R.to (by simp [R.len]) (fun a o h _ => h) (fun a h => .inl (hD a h)) (fun j u e => ?_) (fun j f u e hf => ?_) (fun j f u a e hf s => ?_) (fun j k f g u w a e1 e2 h1 h2 s1 s2 => ?_) R.dom
  · rcases set_cases e with ⟨rfl, z, hl⟩ | ⟨hj, e⟩
    · cases z
      exact .inr ⟨v, List.getElem?_set_self (by rw [← R.len]; exact hl), r.mono (fun a o h _ => h) fun a h => .inl (hD a h)⟩
    · exact .inl ⟨e, List.getElem?_set_ne (Ne.symm hj)⟩
  · obtain ⟨hj, e⟩ := ne e hf
    exact .inl ⟨f, e, hf, List.getElem?_set_ne (Ne.symm hj), fun _ _ => rfl⟩
  · obtain ⟨hj, e⟩ := ne e hf
    rw [List.getElem?_set_ne (Ne.symm hj)] at s
    obtain ⟨c, sc, _, c1, c2⟩ := R.top j f u e hf
    rw [s] at sc; cases sc
    exact ⟨c1, c2⟩
  · obtain ⟨hj, e1⟩ := ne e1 h1
    obtain ⟨hk, e2⟩ := ne e2 h2
    rw [List.getElem?_set_ne (Ne.symm hj)] at s1
    rw [List.getElem?_set_ne (Ne.symm hk)] at s2
    exact R.inj j k f g u w a e1 e2 h1 h2 s1 s2
/-- a name gets an object of its own -/
theorem SR.setOwn {a : Addr} (R : SR K mg (orA D0 a) H env σ) {i : Nat} {t : T} (hnD : ¬ D0 a) (hna : ¬ ownA env σ a) (r : RepTop K mg H (Dof (orA D0 a) env σ) t a) (hi : i < env.length)
    (hb : ∀ (j : Nat) (f : Fl) (u : T), env[j]? = some (some (f, u)) → (f = .bor ∨ f = .io) → D0 a ∨ σ[j]? ≠ some (some (.ref a))) : SR K mg D0 H (env.set i (some (.own, t))) (σ.set i (some (.ref a))) := by
  have hD : ∀ b, Dof D0 (env.set i (some (.own, t))) (σ.set i (some (.ref a))) b → Dof (orA D0 a) env σ b := fun b h => by
    rcases h with h | ⟨j, f, u, e, hf, s⟩
    · exact .inl (.inl h)
    · rcases set_cases e with ⟨rfl, z, hl⟩ | ⟨hj, e⟩
      · rw [List.getElem?_set_self (by rw [← R.len]; exact hl)] at s
        cases s; exact .inl (.inr rfl)
      · rcases set_cases s with ⟨z, _⟩ | ⟨_, s⟩
        · exact absurd z hj
        · exact .inr ⟨j, f, u, e, hf, s⟩
  have noa : ∀ {j : Nat} {f : Fl} {u : T}, env[j]? = some (some (f, u)) → f ≠ .sh → σ[j]? ≠ some (some (.ref a)) := fun {j f u} e hf s => by
    by_cases ho : f = .own ∨ f = .lck
    · exact hna ⟨j, f, u, e, ho, s⟩
    · have hbi : f = .bor ∨ f = .io := by cases f <;> simp at hf ho ⊢
      rcases hb j f u e hbi with z | z
      · exact hnD z
      · exact z s
  refine R.to (by simp [R.len]) (fun b o h _ => h) (fun b h => .inl (hD b h)) (fun j u e => ?_) (fun j f u e hf => ?_) (fun j f u b e hf s => ?_) (fun j k f g u w b e1 e2 h1 h2 s1 s2 => ?_) (fun b h => R.dom b (.inl h))
  · rcases set_cases e with ⟨_, z, _⟩ | ⟨hj, e⟩
    · cases z
    · exact .inl ⟨e, List.getElem?_set_ne (Ne.symm hj)⟩
  · rcases set_cases e with ⟨rfl, z, hl⟩ | ⟨hj, e⟩
    · cases z
      exact .inr ⟨a, List.getElem?_set_self (by rw [← R.len]; exact hl), r.mono (fun b o h _ => h) (fun b h => .inl (hD b h)) rfl⟩
    · exact .inl ⟨f, e, hf, List.getElem?_set_ne (Ne.symm hj), fun _ _ => rfl⟩
  · rcases set_cases e with ⟨rfl, z, hl⟩ | ⟨hj, e⟩
    · cases z
      rw [List.getElem?_set_self (by rw [← R.len]; exact hl)] at s
      cases s
      exact ⟨fun _ => hnD, fun z => by rcases z with z | z <;> cases z⟩
    · rw [List.getElem?_set_ne (Ne.symm hj)] at s
      obtain ⟨c, sc, _, c1, c2⟩ := R.top j f u e hf
      rw [s] at sc; cases sc
      refine ⟨fun h z => c1 h (.inl z), fun h => ?_⟩
      rcases c2 h with z | rfl
      · exact z
      · exact absurd s (noa e hf)
  · rcases set_cases e1 with ⟨q1, z, hl⟩ | ⟨hj, d1⟩
    · cases z
      rw [q1, List.getElem?_set_self (by rw [← R.len]; exact hl)] at s1
      cases s1
      rcases set_cases e2 with ⟨q2, _, _⟩ | ⟨hk, d2⟩
      · rw [q1, q2]
      · rw [List.getElem?_set_ne (Ne.symm hk)] at s2
        exact absurd s2 (noa d2 h2)
    · rw [List.getElem?_set_ne (Ne.symm hj)] at s1
      rcases set_cases e2 with ⟨q2, z, hl⟩ | ⟨hk, d2⟩
      · rw [q2, List.getElem?_set_self (by rw [← R.len]; exact hl)] at s2
        cases s2
        exact absurd s1 (noa d1 h1)
      · rw [List.getElem?_set_ne (Ne.symm hk)] at s2
        exact R.inj j k f g u w b d1 d2 h1 h2 s1 s2
/-- the def's own object becomes a shared one -/
theorem SR.demote (R : SR K mg D0 H env σ) {i : Nat} {t : T} (hi : env[i]? = some (some (.own, t))) : ∃ a : Addr, σ[i]? = some (some (.ref a)) ∧ SR K mg D0 H (env.set i (some (.sh, t))) σ ∧ Rep K mg H (Dof D0 (env.set i (some (.sh, t))) σ) t (.ref a) := by
  obtain ⟨a, sa, rt, c1, _⟩ := R.top i .own t hi (by decide)
  have hD : ∀ b, Dof D0 (env.set i (some (.sh, t))) σ b → Dof D0 env σ b ∧ b ≠ a := fun b h => by
    rcases h with h | ⟨j, f, u, e, hf, s⟩
    · exact ⟨.inl h, fun z => c1 (.inl rfl) (z ▸ h)⟩
    · rcases set_cases e with ⟨_, z, _⟩ | ⟨hj, e⟩
      · cases z; rcases hf with z | z <;> cases z
      · refine ⟨.inr ⟨j, f, u, e, hf, s⟩, fun z => hj ?_⟩
        subst z
        exact R.inj j i f .own u t _ e hi (by rcases hf with rfl | rfl <;> decide) (by decide) s sa
  have rr : Rep K mg H (Dof D0 (env.set i (some (.sh, t))) σ) t (.ref a) := by
    have na : ¬ Dof D0 (env.set i (some (.sh, t))) σ a := fun z => (hD a z).2 rfl
    unfold RepTop at rt
    split at rt
    · obtain ⟨xs, h1, h2⟩ := rt
      exact .lst h1 na (h2.mono (fun _ _ h _ => h) fun b h => .inl (hD b h).1)
    · obtain ⟨xs, h1, h2, h3⟩ := rt
      exact .dct (.inl h1) na h2 (h3.mono (fun _ _ h _ => h) fun b h => .inl (hD b h).1)
    · obtain ⟨xs, h1, h2, h3⟩ := rt
      exact .dtt (.inl h1) na h2 (h3.mono (fun _ _ h _ => h) fun b h => .inl (hD b h).1)
    · exact rt.elim
  refine ⟨a, sa, ?_, rr⟩
  have ne : ∀ {j : Nat} {f : Fl} {u : T}, (env.set i (some (.sh, t)))[j]? = some (some (f, u)) → f ≠ .sh → j ≠ i ∧ env[j]? = some (some (f, u)) := fun {j f u} e hf => by
    rcases set_cases e with ⟨_, z, _⟩ | h
    · cases z; exact absurd rfl hf
    · exact h
  refine R.to (by simp [R.len]) (fun a o h _ => h) (fun a h => .inl (hD a h).1) (fun j u e => ?_) (fun j f u e hf => ?_) (fun j f u b e hf s => ?_) (fun j k f g u w b e1 e2 h1 h2 s1 s2 => R.inj j k f g u w b (ne e1 h1).2 (ne e2 h2).2 h1 h2 s1 s2) R.dom
  · rcases set_cases e with ⟨rfl, z, hl⟩ | ⟨hj, e⟩
    · cases z; exact .inr ⟨_, sa, rr⟩
    · exact .inl ⟨e, rfl⟩
  · exact .inl ⟨f, (ne e hf).2, hf, rfl, fun _ _ => rfl⟩
  · obtain ⟨c, sc, _, c1, c2⟩ := R.top j f u (ne e hf).2 hf
    rw [s] at sc; cases sc
    exact ⟨c1, c2⟩
/-- the flags alone change (locked, unlocked) -/
theorem SR.flag (R : SR K mg D0 H env σ) {i : Nat} {f f' : Fl} {t : T} (hi : env[i]? = some (some (f, t))) (hf : f = .own ∨ f = .lck) (hf' : f' = .own ∨ f' = .lck) : SR K mg D0 H (env.set i (some (f', t))) σ ∧ (∀ a, Dof D0 (env.set i (some (f', t))) σ a ↔ Dof D0 env σ a) := by
  have o1 : ∀ a, ownA (env.set i (some (f', t))) σ a ↔ ownA env σ a := fun a => by
    constructor
    · rintro ⟨j, g, u, e, hg, s⟩
      rcases set_cases e with ⟨rfl, z, _⟩ | ⟨hj, e⟩
      · cases z; exact ⟨_, f, t, hi, hf, s⟩
      · exact ⟨j, g, u, e, hg, s⟩
    · rintro ⟨j, g, u, e, hg, s⟩
      by_cases hj : j = i
      · subst hj
        rw [hi] at e; cases e
        exact ⟨j, f', t, List.getElem?_set_self (get_lt hi), hf', s⟩
      · exact ⟨j, g, u, by rw [List.getElem?_set_ne (Ne.symm hj)]; exact e, hg, s⟩
  have hD : ∀ a, Dof D0 (env.set i (some (f', t))) σ a ↔ Dof D0 env σ a := fun a => or_congr Iff.rfl (o1 a)
  have back : ∀ {j : Nat} {g : Fl} {u : T}, (env.set i (some (f', t)))[j]? = some (some (g, u)) → g ≠ .sh → ∃ g0 : Fl, env[j]? = some (some (g0, u)) ∧ g0 ≠ .sh ∧ ((g = .own ∨ g = .lck) → (g0 = .own ∨ g0 = .lck)) ∧ ((g = .bor ∨ g = .io) → g0 = g) := fun {j g u} e hg => by
    rcases set_cases e with ⟨rfl, z, _⟩ | ⟨hj, e⟩
    · cases z
      exact ⟨f, hi, by rcases hf with rfl | rfl <;> decide, fun _ => hf, fun z => by rcases hf' with rfl | rfl <;> rcases z with z | z <;> cases z⟩
    · exact ⟨g, e, hg, id, fun _ => rfl⟩
  refine ⟨R.to (by simp [R.len]) (fun a o h _ => h) (fun a h => .inl ((hD a).mp h)) (fun j u e => ?_) (fun j g u e hg => ?_) (fun j g u b e hg s => ?_) (fun j k g g' u w b e1 e2 h1 h2 s1 s2 => ?_) R.dom, hD⟩
  · rcases set_cases e with ⟨_, z, _⟩ | ⟨hj, e⟩
    · cases z; rcases hf' with z | z <;> cases z
    · exact .inl ⟨e, rfl⟩
  · obtain ⟨g0, e0, h0, _⟩ := back e hg
    exact .inl ⟨g0, e0, h0, rfl, fun _ _ => rfl⟩
  · obtain ⟨g0, e0, h0, k1, k2⟩ := back e hg
    obtain ⟨c, sc, _, c1, c2⟩ := R.top j g0 u e0 h0
    rw [s] at sc; cases sc
    exact ⟨fun z => c1 (k1 z), fun z => c2 (by rw [k2 z]; exact z)⟩
  · obtain ⟨g0, e0, h0, _⟩ := back e1 h1
    obtain ⟨g1, e1', h1', _⟩ := back e2 h2
    exact R.inj j k g0 g1 u w b e0 e1' h0 h1' s1 s2
/-- a name is forgotten -/
theorem SR.drop (R : SR K mg D0 H env σ) (i : Nat) (w : Option V) : SR K mg D0 H (env.set i none) (σ.set i w) := by
  have ne : ∀ {j : Nat} {f : Fl} {u : T}, (env.set i none)[j]? = some (some (f, u)) → j ≠ i ∧ env[j]? = some (some (f, u)) := fun {j f u} e => by
    rcases set_cases e with ⟨_, z, _⟩ | h
    · cases z
    · exact h
  have sg : ∀ {j : Nat}, j ≠ i → (σ.set i w)[j]? = σ[j]? := fun hj => List.getElem?_set_ne (Ne.symm hj)
  refine R.to (by simp [R.len]) (fun a o h _ => h) (fun a h => .inl ?_) (fun j u e => .inl ⟨(ne e).2, sg (ne e).1⟩) (fun j f u e hf => .inl ⟨f, (ne e).2, hf, sg (ne e).1, fun _ _ => rfl⟩) (fun j f u b e hf s => ?_)
    (fun j k f g u w b e1 e2 h1 h2 s1 s2 => R.inj j k f g u w b (ne e1).2 (ne e2).2 h1 h2 (by rw [← sg (ne e1).1]; exact s1) (by rw [← sg (ne e2).1]; exact s2)) R.dom
  · rcases h with h | ⟨j, f, u, e, hf, s⟩
    · exact .inl h
    · exact .inr ⟨j, f, u, (ne e).2, hf, by rw [← sg (ne e).1]; exact s⟩
  · rw [sg (ne e).1] at s
    obtain ⟨c, sc, _, c1, c2⟩ := R.top j f u (ne e).2 hf
    rw [s] at sc; cases sc
    exact ⟨c1, c2⟩
theorem SR.dropE (R : SR K mg D0 H env σ) (i : Nat) : SR K mg D0 H (env.set i none) σ := by
  by_cases hi : i < σ.length
  · have h := R.drop i σ[i]
    rwa [List.set_getElem_self] at h
  · have hl := R.len
    have h := R.drop i none
    rwa [List.set_eq_of_length_le (l := σ) (by omega)] at h
/-- the object at a slot changes -/
theorem SR.change (R : SR K mg D0 H env σ) {i : Nat} {f : Fl} {t t' : T} {a : Addr} {o' : HO} (hi : env[i]? = some (some (f, t))) (hf : f = .own ∨ f = .io) (sa : σ[i]? = some (some (.ref a))) (r : RepTop K mg (upd H a o') (Dof D0 env σ) t' a) :
    SR K mg D0 (upd H a o') (env.set i (some (f, t'))) σ ∧ ∀ b, Dof D0 (env.set i (some (f, t'))) σ b ↔ Dof D0 env σ b := by
  have hsh : f ≠ .sh := by rcases hf with rfl | rfl <;> decide
  have o1 : ∀ b, ownA (env.set i (some (f, t'))) σ b ↔ ownA env σ b := fun b => by
    constructor
    · rintro ⟨j, g, u, e, hg, s⟩
      rcases set_cases e with ⟨rfl, z, _⟩ | ⟨hj, e⟩
      · cases z; exact ⟨_, _, t, hi, hg, s⟩
      · exact ⟨j, g, u, e, hg, s⟩
    · rintro ⟨j, g, u, e, hg, s⟩
      by_cases hj : j = i
      · subst hj
        rw [hi] at e; cases e
        exact ⟨j, f, t', List.getElem?_set_self (get_lt hi), hg, s⟩
      · exact ⟨j, g, u, by rw [List.getElem?_set_ne (Ne.symm hj)]; exact e, hg, s⟩
  have hD : ∀ b, Dof D0 (env.set i (some (f, t'))) σ b ↔ Dof D0 env σ b := fun b => or_congr Iff.rfl (o1 b)
  have inD : Dof D0 env σ a := by
    obtain ⟨c, sc, _, c1, c2⟩ := R.top i f t hi hsh
    rw [sa] at sc; cases sc
    rcases hf with rfl | rfl
    · exact .inr ⟨i, _, t, hi, .inl rfl, sa⟩
    · exact .inl (c2 (.inr rfl))
  have back : ∀ {j : Nat} {g : Fl} {u : T}, (env.set i (some (f, t')))[j]? = some (some (g, u)) → ∃ u0, env[j]? = some (some (g, u0)) ∧ (j ≠ i → u0 = u) := fun {j g u} e => by
    rcases set_cases e with ⟨rfl, z, _⟩ | ⟨hj, e⟩
    · cases z; exact ⟨t, hi, fun z => absurd rfl z⟩
    · exact ⟨u, e, fun _ => rfl⟩
  refine ⟨R.to (by simp [R.len]) (fun b o h n => ?_) (fun b h => .inl ((hD b).mp h)) (fun j u e => ?_) (fun j g u e hg => ?_) (fun j g u b e hg s => ?_) (fun j k g g' u w b e1 e2 h1 h2 s1 s2 => ?_) (fun b h => ?_), hD⟩
  · rw [upd_ne (fun z => n (by rw [z]; exact inD))]; exact h
  · rcases set_cases e with ⟨_, z, _⟩ | ⟨hj, e⟩
    · cases z; exact absurd rfl hsh
    · exact .inl ⟨e, rfl⟩
  · rcases set_cases e with ⟨rfl, z, _⟩ | ⟨hj, e⟩
    · cases z
      exact .inr ⟨a, sa, r.mono (fun _ _ h _ => h) (fun b h => .inl ((hD b).mp h)) rfl⟩
    · exact .inl ⟨g, e, hg, rfl, fun b sb => upd_ne fun z => hj (by subst z; exact R.inj j i g f u t _ e hi hg hsh sb sa)⟩
  · obtain ⟨u0, e0, _⟩ := back e
    obtain ⟨c, sc, _, c1, c2⟩ := R.top j g u0 e0 hg
    rw [s] at sc; cases sc
    exact ⟨c1, c2⟩
  · obtain ⟨u0, e0, _⟩ := back e1
    obtain ⟨w0, e0', _⟩ := back e2
    exact R.inj j k g g' u0 w0 b e0 e0' h1 h2 s1 s2
  · by_cases hb : b = a
    · subst hb; rw [upd_same]; exact fun z => nomatch z
    · rw [upd_ne hb]; exact R.dom b h
end
end VL

set_option maxHeartbeats 2000000
namespace VL
open PySem PySem.Spec PyProof.Rows L2

/-! ### readings -/
section
variable (K : PySem.W.Frag) (mg : Str → Option Value)
/-- an exception's class and its dict, of its tree -/
def ExcRep (H : Hp) (D : Addr → Prop) (x : T) (cls : Value) (d : Option Addr) : Prop :=
  ∃ (c : Str) (fn : List Str) (fv : List T) (Ca : Addr), x = .exc c fn fv ∧ mg c = some (.ref Ca) ∧ cls = .ref Ca ∧
    ((fn = [] ∧ fv = [] ∧ d = none) ∨ ∃ (dd : Addr) (vs : List V), d = some dd ∧ H dd = some (.xd (fn.zip vs)) ∧ ¬ D dd ∧ fn.length = vs.length ∧ RepL K mg H D fv vs)
abbrev RR (α : Type) := α → V → Hp → En → L2.St → Hp → Prop
def XPost (D0 : Addr → Prop) (W : WX) (env : En) (σ : L2.St) (H : Hp) (x : T) (env' : En) : Prop :=
  ∀ cls d H', Step env σ H env' σ H' → SR K mg D0 H' env' σ → ExcRep K mg H' (Dof D0 env' σ) x cls d → W cls d σ H'
def PR {α : Type} (D0 : Addr → Prop) (W : WX) (R : RR α) (env : En) (σ : L2.St) (H : Hp) (Q : VK) : Res α → Prop
  | .ok a env' => ∀ v H', Step env σ H env' σ H' → SR K mg D0 H' env' σ → R a v H env' σ H' → Q v H'
  | .exc x env' => XPost K mg D0 W env σ H x env'
  | .stuck => False
def PB (D0 : Addr → Prop) (W : WX) (env : En) (σ : L2.St) (H : Hp) (Q : Bool → Hp → Prop) : Res Bool → Prop
  | .ok b env' => ∀ H', Step env σ H env' σ H' → SR K mg D0 H' env' σ → Q b H'
  | .exc x env' => XPost K mg D0 W env σ H x env'
  | .stuck => False
abbrev RL (α : Type) := α → List V → Hp → En → L2.St → Hp → Prop
def PL {α : Type} (D0 : Addr → Prop) (W : WX) (R : RL α) (env : En) (σ : L2.St) (H : Hp) (Q : List V → Hp → Prop) : Res α → Prop
  | .ok a env' => ∀ v H', Step env σ H env' σ H' → SR K mg D0 H' env' σ → R a v H env' σ H' → Q v H'
  | .exc x env' => XPost K mg D0 W env σ H x env'
  | .stuck => False
def tR {α : Type} (D0 : Addr → Prop) (W : WX) (R : RR α) (m : M α) : TE := fun σ H Q => ∃ env, SR K mg D0 H env σ ∧ PR K mg D0 W R env σ H Q (m env)
def tB (D0 : Addr → Prop) (W : WX) (m : M Bool) : TT := fun σ H Q => ∃ env, SR K mg D0 H env σ ∧ PB K mg D0 W env σ H Q (m env)
def tA {α : Type} (D0 : Addr → Prop) (W : WX) (R : RL α) (m : M α) : TA := fun σ H Q => ∃ env, SR K mg D0 H env σ ∧ PL K mg D0 W R env σ H Q (m env)
def OutR (D0 : Addr → Prop) : RR Out := fun o v H env σ H' => match o with
  | .val t => Rep K mg H' (Dof D0 env σ) t v
  | .own t => ∃ a : Addr, v = .ref a ∧ H a = none ∧ SR K mg (orA D0 a) H' env σ ∧ RepTop K mg H' (Dof (orA D0 a) env σ) t a
def OpdR (D0 : Addr → Prop) : RR Opnd := fun o v _ env σ H' => match o with
  | .val t => Rep K mg H' (Dof D0 env σ) t v
  | .slot i => σ[i]? = some (some v)
/-- operands in a row -/
inductive OpdL (H' : Hp) (D : Addr → Prop) (σ : L2.St) : List Opnd → List V → Prop
  | nil : OpdL H' D σ [] []
  | val {t v os vs} : Rep K mg H' D t v → OpdL H' D σ os vs → OpdL H' D σ (.val t :: os) (v :: vs)
  | slot {i v os vs} : σ[i]? = some (some v) → OpdL H' D σ os vs → OpdL H' D σ (.slot i :: os) (v :: vs)
def OpdsR (D0 : Addr → Prop) : RL (List Opnd) := fun os vs _ env σ H' => OpdL K mg H' (Dof D0 env σ) σ os vs
def ValsR (D0 : Addr → Prop) : RL (List T) := fun ts vs _ env σ H' => RepL K mg H' (Dof D0 env σ) ts vs
/-- a value that is looked at: shared, or an object of the def's own itself -/
def RepP (H : Hp) (D : Addr → Prop) (t : T) (v : V) : Prop := Rep K mg H D t v ∨ ∃ a : Addr, v = .ref a ∧ RepTop K mg H D t a
inductive RepPL (H : Hp) (D : Addr → Prop) : List T → List V → Prop
  | nil : RepPL H D [] []
  | cons {t v ts vs} : RepP K mg H D t v → RepPL H D ts vs → RepPL H D (t :: ts) (v :: vs)
/-- what an operation tells: something that stands, or something new -/
def OutP (H : Hp) (D : Addr → Prop) (o : Out) (w : V) (H' : Hp) : Prop := match o with
  | .val t => Rep K mg H' D t w
  | .own t => ∃ a : Addr, w = .ref a ∧ H a = none ∧ RepTop K mg H' (orA D a) t a
/-- what is kept apart stands -/
def D2 (D : Addr → Prop) (H : Hp) : Prop := ∀ a, H a = none → ¬ D a
def PureQ (D : Addr → Prop) (o : Option Out) (H : Hp) (Q : VK) : Prop := ∃ out, o = some out ∧ ∀ w H', Same H H' → OutP K mg H D out w H' → Q w H'
end

theorem pe_imp {X : Cx} {e : Expr} {t t' : TE} (h : PE X e t) (i : ∀ σ H Q, t' σ H Q → t σ H Q) : PE X e t' := ⟨fun pins s σ H Q I hw => h.run pins s σ H Q I (i σ H Q hw)⟩
theorem pt_imp {X : Cx} {e : Expr} {t t' : TT} (h : PT X e t) (i : ∀ σ H Q, t' σ H Q → t σ H Q) : PT X e t' := ⟨fun pins s σ H Q I hw => h.run pins s σ H Q I (i σ H Q hw)⟩
theorem pa_imp {X : Cx} {e : List Expr} {t t' : TA} (h : PA X e t) (i : ∀ σ H Q, t' σ H Q → t σ H Q) : PA X e t' := ⟨fun pos pins s σ H Q I hw => h.run pos pins s σ H Q I (i σ H Q hw)⟩
theorem ps_imp {X : Cx} {e : Stmt} {t t' : TS} (h : PS X e t) (i : ∀ D σ H, t' D σ H → t D σ H) : PS X e t' := ⟨fun pins s σ H D I hw => h.run pins s σ H D I (i D σ H hw)⟩
theorem pss_imp {X : Cx} {e : List Stmt} {t t' : TS} (h : PSs X e t) (i : ∀ D σ H, t' D σ H → t D σ H) : PSs X e t' := ⟨fun pins s σ H D I hw => h.run pins s σ H D I (i D σ H hw)⟩
theorem pe_false {X : Cx} {e : Expr} {t : TE} (h : ∀ σ H Q, ¬ t σ H Q) : PE X e t := ⟨fun _ _ σ H Q _ hw => (h σ H Q hw).elim⟩

section
variable {K : PySem.W.Frag} {mg : Str → Option Value} {H H1 H' : Hp} {D0 D D' : Addr → Prop} {env env1 env' : En} {σ : L2.St} {W : WX}
theorem SR.d2 (R : SR K mg D0 H env σ) : D2 (Dof D0 env σ) H := fun _ h z => R.dofDom z h
theorem OutR.rep {o : Out} {v : V} (h : OutR K mg D0 o v H env σ H') (hD : ∀ a, D0 a → H a ≠ none) : Rep K mg H' (Dof D0 env σ) o.t v := by
  cases o with
  | val t => exact h
  | own t =>
    obtain ⟨a, rfl, hn, R, rt⟩ := h
    have nd : ¬ Dof D0 env σ a := fun z => by
      rcases z with z | ⟨i, f, u, e, hf, s⟩
      · exact hD a z hn
      · obtain ⟨b, sb, _, c1, _⟩ := R.top i f u e (by rcases hf with rfl | rfl <;> decide)
        rw [s] at sb; cases sb
        exact c1 hf (.inr rfl)
    have hm : ∀ b, Dof D0 env σ b → Dof (orA D0 a) env σ b ∨ H' b = none := fun b z => .inl (z.imp .inl id)
    show Rep K mg H' (Dof D0 env σ) t (.ref a)
    unfold RepTop at rt
    split at rt
    · obtain ⟨xs, h1, h2⟩ := rt; exact .lst h1 nd (h2.mono (fun _ _ h _ => h) hm)
    · obtain ⟨xs, h1, h2, h3⟩ := rt; exact .dct (.inl h1) nd h2 (h3.mono (fun _ _ h _ => h) hm)
    · obtain ⟨xs, h1, h2, h3⟩ := rt; exact .dtt (.inl h1) nd h2 (h3.mono (fun _ _ h _ => h) hm)
    · exact rt.elim
theorem OpdR.step (R : SR K mg D0 H env σ) (S : Step env σ H env' σ H') {o : Opnd} {v : V} {Ha Hb : Hp} (h : OpdR K mg D0 o v Ha env σ H) : OpdR K mg D0 o v Hb env' σ H' := by
  cases o with
  | val t => exact Step.rep R S h
  | slot i => exact h
theorem OpdL.step (R : SR K mg D0 H env σ) (S : Step env σ H env' σ H') {os : List Opnd} {vs : List V} (h : OpdL K mg H (Dof D0 env σ) σ os vs) : OpdL K mg H' (Dof D0 env' σ) σ os vs := by
  induction h with
  | nil => exact .nil
  | val r _ ih => exact .val (Step.rep R S r) ih
  | slot e _ ih => exact .slot e ih
theorem OpdR.get {o : Opnd} {v : V} {Ha : Hp} {t : T} (R : SR K mg D0 H env σ) (h : OpdR K mg D0 o v Ha env σ H) (e : opT env o = some t) : RepP K mg H (Dof D0 env σ) t v := by
  cases o with
  | val u => cases e; exact .inl h
  | slot i =>
    have h : σ[i]? = some (some v) := h
    unfold opT at e
    dsimp only at e
    split at e
    · rename_i f u eu
      cases e
      by_cases hf : f = .sh
      · subst hf
        obtain ⟨w, sw, r⟩ := R.sh i _ eu
        rw [h] at sw; cases sw
        exact .inl r
      · obtain ⟨a, sa, r, _⟩ := R.top i f _ eu hf
        rw [h] at sa; cases sa
        exact .inr ⟨a, rfl, r⟩
    · cases e
theorem OpdL.get {os : List Opnd} {vs : List V} {ts : List T} (R : SR K mg D0 H env σ) (h : OpdL K mg H (Dof D0 env σ) σ os vs) (e : opTs env os = some ts) : RepPL K mg H (Dof D0 env σ) ts vs := by
  induction h generalizing ts with
  | nil => cases e; exact .nil
  | @val t v os vs r l ih =>
    unfold opTs at e
    split at e
    · rename_i t' ts' e1 e2
      cases e
      exact .cons (OpdR.get (Ha := H) R (show OpdR K mg D0 (.val t) v H env σ H from r) e1) (ih e2)
    · cases e
  | @slot i v os vs s l ih =>
    unfold opTs at e
    split at e
    · rename_i t' ts' e1 e2
      cases e
      exact .cons (OpdR.get (Ha := H) R (show OpdR K mg D0 (.slot i) v H env σ H from s) e1) (ih e2)
    · cases e
/-- what an operation tells is what an expression tells -/
theorem OutP.outR {o : Out} {w : V} (R : SR K mg D0 H env σ) (s : Same H H') (h : OutP K mg H (Dof D0 env σ) o w H') : Step env σ H env σ H' ∧ SR K mg D0 H' env σ ∧ OutR K mg D0 o w H env σ H' := by
  refine ⟨Step.grow s, R.same s, ?_⟩
  cases o with
  | val t => exact h
  | own t =>
    obtain ⟨a, rfl, hn, rt⟩ := h
    refine ⟨a, rfl, hn, R.ext s hn (by obtain ⟨o, ho⟩ := rt.there; rw [ho]; exact fun z => nomatch z), ?_⟩
    refine rt.mono (fun _ _ h _ => h) (fun b z => .inl ?_) rfl
    rcases z with (z | z) | z
    · exact .inl (.inl z)
    · exact .inr z
    · exact .inl (.inr z)
/-- an expression's answer, seen from an earlier heap -/
theorem OutR.back {o : Out} {v : V} (d : ∀ a, H a ≠ none → H1 a ≠ none) (h : OutR K mg D0 o v H1 env σ H') : OutR K mg D0 o v H env σ H' := by
  cases o with
  | val t => exact h
  | own t =>
    obtain ⟨a, e, hn, r⟩ := h
    exact ⟨a, e, none_of d hn, r⟩
theorem XPost.back {x : T} (S : Step env σ H env1 σ H1) (h : XPost K mg D0 W env σ H x env') : XPost K mg D0 W env1 σ H1 x env' := fun cls d H' S' R' xr => h cls d H' (S.trans S') R' xr
/-- the last step: an operation on what was looked at -/
theorem fin_pure {o : Option Out} {Q : VK} (S : Step env σ H env1 σ H1) (R1 : SR K mg D0 H1 env1 σ)
    (h : PR K mg D0 W (OutR K mg D0) env σ H Q (optO o env1)) : PureQ K mg (Dof D0 env1 σ) o H1 Q := by
  cases o with
  | none => exact h.elim
  | some out =>
    refine ⟨out, rfl, fun w H2 s p => ?_⟩
    obtain ⟨S2, R2, q⟩ := OutP.outR R1 s p
    exact h w H2 (S.trans S2) R2 (q.back S.dom)
theorem un1_imp {m : M Opnd} {f : T → Option Out} {Q : VK} (h : tR K mg D0 W (OutR K mg D0) (un1 m f) σ H Q) :
    tR K mg D0 W (OpdR K mg D0) m σ H fun v H1 => ∃ D t, D2 D H1 ∧ RepP K mg H1 D t v ∧ PureQ K mg D (f t) H1 Q := by
  obtain ⟨env, R, h⟩ := h
  refine ⟨env, R, ?_⟩
  cases e : m env with
  | stuck => simp only [un1, e, bind_stuck] at h; exact h
  | exc x env1 => simp only [un1, e, bind_exc] at h; exact h
  | ok o env1 =>
    simp only [un1, e, bind_ok] at h
    intro v H1 S R1 ho
    cases eo : opT env1 o with
    | none => rw [eo] at h; exact h.elim
    | some t =>
      rw [eo] at h
      exact ⟨_, t, R1.d2, ho.get R1 eo, fin_pure (o := f t) S R1 h⟩
theorem un2_imp {m n : M Opnd} {f : T → T → Option Out} {Q : VK} (h : tR K mg D0 W (OutR K mg D0) (un2 m n f) σ H Q) :
    tR K mg D0 W (OpdR K mg D0) m σ H fun v H1 => tR K mg D0 W (OpdR K mg D0) n σ H1 fun w H2 => ∃ D t u, D2 D H2 ∧ RepP K mg H2 D t v ∧ RepP K mg H2 D u w ∧ PureQ K mg D (f t u) H2 Q := by
  obtain ⟨env, R, h⟩ := h
  refine ⟨env, R, ?_⟩
  cases e : m env with
  | stuck => simp only [un2, e, bind_stuck] at h; exact h
  | exc x env1 => simp only [un2, e, bind_exc] at h; exact h
  | ok o env1 =>
    simp only [un2, e, bind_ok] at h
    intro v H1 S R1 ho
    refine ⟨env1, R1, ?_⟩
    cases e2 : n env1 with
    | stuck => simp only [e2, bind_stuck] at h; exact h
    | exc x env2 => simp only [e2, bind_exc] at h; exact XPost.back S h
    | ok p env2 =>
      simp only [e2, bind_ok] at h
      intro w H2 S2 R2 hp
      cases eo : opT env2 o with
      | none => rw [eo] at h; exact h.elim
      | some t =>
        cases ep : opT env2 p with
        | none => rw [eo, ep] at h; exact h.elim
        | some u =>
          rw [eo, ep] at h
          exact ⟨_, t, u, R2.d2, (ho.step (Hb := H2) R1 S2).get R2 eo, hp.get R2 ep, fin_pure (o := f t u) (S.trans S2) R2 h⟩
theorem unL_imp {m : M (List Opnd)} {f : List T → Option Out} {Q : VK} (h : tR K mg D0 W (OutR K mg D0) (unL m f) σ H Q) :
    tA K mg D0 W (OpdsR K mg D0) m σ H fun vs H1 => ∃ D ts, D2 D H1 ∧ RepPL K mg H1 D ts vs ∧ PureQ K mg D (f ts) H1 Q := by
  obtain ⟨env, R, h⟩ := h
  refine ⟨env, R, ?_⟩
  cases e : m env with
  | stuck => simp only [unL, e, bind_stuck] at h; exact h
  | exc x env1 => simp only [unL, e, bind_exc] at h; exact h
  | ok o env1 =>
    simp only [unL, e, bind_ok] at h
    intro v H1 S R1 ho
    cases eo : opTs env1 o with
    | none => rw [eo] at h; exact h.elim
    | some t =>
      rw [eo] at h
      exact ⟨_, t, R1.d2, OpdL.get R1 ho eo, fin_pure (o := f t) S R1 h⟩
/-- an expression as an operand -/
theorem opnd_imp {m : M Out} {Q : VK} (h : tR K mg D0 W (OpdR K mg D0) (fun env => (m env).bind fun o => fun env' => .ok (Opnd.val o.t) env') σ H Q) : tR K mg D0 W (OutR K mg D0) m σ H Q := by
  obtain ⟨env, R, h⟩ := h
  refine ⟨env, R, ?_⟩
  cases e : m env with
  | stuck => simp only [e, bind_stuck] at h; exact h
  | exc x env1 => simp only [e, bind_exc] at h; exact h
  | ok o env1 =>
    simp only [e, bind_ok] at h
    intro v H1 S R1 ho
    exact h v H1 S R1 (ho.rep R.dom)
theorem tru1_imp {m : M Opnd} {Q : Bool → Hp → Prop} (h : tB K mg D0 W (tru1 m) σ H Q) :
    tR K mg D0 W (OpdR K mg D0) m σ H fun v H1 => ∃ D t b, RepP K mg H1 D t v ∧ truT t = some b ∧ Q b H1 := by
  obtain ⟨env, R, h⟩ := h
  refine ⟨env, R, ?_⟩
  cases e : m env with
  | stuck => simp only [tru1, e, bind_stuck] at h; exact h
  | exc x env1 => simp only [tru1, e, bind_exc] at h; exact h
  | ok o env1 =>
    simp only [tru1, e, bind_ok] at h
    intro v H1 S R1 ho
    cases eo : opT env1 o with
    | none => rw [eo] at h; exact h.elim
    | some t =>
      rw [eo] at h
      simp only [Option.bind_some] at h
      cases et : truT t with
      | none => rw [et] at h; exact h.elim
      | some b =>
        rw [et] at h
        exact ⟨_, t, b, ho.get R1 eo, et, h H1 S R1⟩
end

/-! ### names -/
section
variable {X : Cx} {D0 : Addr → Prop} {W : WX}
theorem s_slotO {i : Nat} {x : Str} {pos : Pos} (hN : X.N[i]? = some x) (hv : Vis X.env.scope x) (hd : (x == ("__debug__" : Str)) = false) (hcd : (x == ("__classdict__" : Str)) = false) : PE X (.Name x pos) (tR X.K X.mg D0 W (OpdR X.K X.mg D0) (slotO i)) := by
  refine pe_imp (pe_var (i := i) hN hv hd hcd) fun σ H Q h => ?_
  obtain ⟨env, R, h⟩ := h
  cases e : env[i]? with
  | none => simp only [slotO, e] at h; exact h.elim
  | some s =>
    cases s with
    | none => simp only [slotO, e] at h; exact h.elim
    | some ft =>
      simp only [slotO, e] at h
      obtain ⟨f, t⟩ := ft
      have hv : ∃ v : V, σ[i]? = some (some v) := by
        by_cases hf : f = .sh
        · subst hf; obtain ⟨v, sv, _⟩ := R.sh i t e; exact ⟨v, sv⟩
        · obtain ⟨a, sa, _⟩ := R.top i f t e hf; exact ⟨_, sa⟩
      obtain ⟨v, sv⟩ := hv
      exact ⟨v, sv, h v H Step.refl R sv⟩
theorem s_slotE {i : Nat} {x : Str} {pos : Pos} (hN : X.N[i]? = some x) (hv : Vis X.env.scope x) (hd : (x == ("__debug__" : Str)) = false) (hcd : (x == ("__classdict__" : Str)) = false) : PE X (.Name x pos) (tR X.K X.mg D0 W (OutR X.K X.mg D0) (slotE i)) := by
  refine pe_imp (pe_var (i := i) hN hv hd hcd) fun σ H Q h => ?_
  obtain ⟨env, R, h⟩ := h
  cases e : env[i]? with
  | none => simp only [slotE, e] at h; exact h.elim
  | some s =>
    cases s with
    | none => simp only [slotE, e] at h; exact h.elim
    | some ft =>
      obtain ⟨f, t⟩ := ft
      simp only [slotE, e] at h
      cases f with
      | sh =>
        obtain ⟨v, sv, r⟩ := R.sh i t e
        exact ⟨v, sv, h v H Step.refl R r⟩
      | own =>
        obtain ⟨a, sa, R', r⟩ := R.demote e
        refine ⟨_, sa, h _ H ⟨fun _ _ h _ => h, fun b hb => ?_, fun b hb => ?_, fun j g u ej hg => ⟨rfl, u, ?_⟩, fun _ h => h, fun b hb => ?_⟩ R' r⟩
        · obtain ⟨j, g, u, ej, hg, sj⟩ := hb
          rcases set_cases ej with ⟨_, z, _⟩ | ⟨_, ej⟩
          · cases z; rcases hg with z | z <;> cases z
          · exact .inl ⟨j, g, u, ej, hg, sj⟩
        · obtain ⟨j, g, u, ej, hg, sj⟩ := hb
          rcases set_cases ej with ⟨_, z, _⟩ | ⟨_, ej⟩
          · cases z; rcases hg with z | z <;> cases z
          · exact .inl ⟨j, g, u, ej, hg, sj⟩
        · have hj : j ≠ i := fun z => by
            subst z
            rw [e] at ej; cases ej
            rcases hg with z | z | z <;> cases z
          rw [List.getElem?_set_ne (Ne.symm hj)]; exact ej
        · obtain ⟨j, g, u, ej, hg, sj⟩ := hb
          rcases set_cases ej with ⟨_, z, _⟩ | ⟨_, ej⟩
          · cases z; rcases hg with z | z <;> cases z
          · exact ⟨j, g, u, ej, hg, sj⟩
      | lck => exact h.elim
      | bor => exact h.elim
      | io => exact h.elim
end
end VL

set_option maxHeartbeats 2000000
namespace VL
open PySem PySem.Spec PyProof.Rows L2

section
variable {K : PySem.W.Frag} {mg : Str → Option Value} {H H' : Hp} {D : Addr → Prop}
theorem RepP.int {i : Int} {v : V} (h : RepP K mg H D (.int i) v) : v = .int i := by
  rcases h with h | ⟨a, _, h⟩
  · cases h; rfl
  · exact h.elim
theorem RepP.str {i : Str} {v : V} (h : RepP K mg H D (.str i) v) : v = .str i := by
  rcases h with h | ⟨a, _, h⟩
  · cases h; rfl
  · exact h.elim
theorem RepP.bl {i : Bool} {v : V} (h : RepP K mg H D (.bl i) v) : v = .bl i := by
  rcases h with h | ⟨a, _, h⟩
  · cases h; rfl
  · exact h.elim
theorem RepP.non {v : V} (h : RepP K mg H D .non v) : v = .non := by
  rcases h with h | ⟨a, _, h⟩
  · cases h; rfl
  · exact h.elim
theorem RepP.lst {ts : List T} {v : V} (h : RepP K mg H D (.lst ts) v) : ∃ a xs, v = .ref a ∧ H a = some (.lst xs) ∧ RepL K mg H D ts xs := by
  rcases h with h | ⟨a, e, h⟩
  · cases h with
    | lst h1 n l => exact ⟨_, _, rfl, h1, l⟩
  · obtain ⟨xs, h1, l⟩ := h; exact ⟨a, xs, e, h1, l⟩
theorem RepP.tup {ts : List T} {v : V} (h : RepP K mg H D (.tup ts) v) : ∃ a xs, v = .ref a ∧ SqT K H a xs ∧ RepL K mg H D ts xs ∧ Rep K mg H D (.tup ts) v := by
  rcases h with h | ⟨a, e, h⟩
  · have h0 := h
    cases h with
    | tup h1 l => exact ⟨_, _, rfl, h1.sq, l, h0⟩
  · exact h.elim
theorem RepP.scr {ns : List Int} {v : V} (h : RepP K mg H D (.scr ns) v) : ∃ a, v = .ref a ∧ SqL K H a (ns.map V.int) := by
  rcases h with h | ⟨a, e, h⟩
  · cases h with
    | scr h1 => exact ⟨_, rfl, h1.sq⟩
  · exact h.elim
/-- a new tuple, a new list -/
theorem PureQ.val {t : T} {Q : VK} {w : V} (r : Rep K mg H D t w) (k : ∀ w H', Same H H' → OutP K mg H D (.val t) w H' → Q w H') : Q w H := k w H (Same.refl H) r
theorem same_upd {a : Addr} {o : HO} (h : H a = none) : Same H (upd H a o) := fun b u e => by
  rw [upd_ne (ne_of_none e h)]; exact e
theorem Rep.grow {t : T} {v : V} {a : Addr} {o : HO} (h : H a = none) (r : Rep K mg H D t v) : Rep K mg (upd H a o) D t v := r.mono (fun b u e _ => same_upd h b u e) fun _ h => .inl h
theorem RepL.grow {t : List T} {v : List V} {a : Addr} {o : HO} (h : H a = none) (r : RepL K mg H D t v) : RepL K mg (upd H a o) D t v := r.mono (fun b u e _ => same_upd h b u e) fun _ h => .inl h
theorem RepL.growX {t : List T} {v : List V} {a : Addr} {o : HO} (h : H a = none) (r : RepL K mg H D t v) : RepL K mg (upd H a o) (orA D a) t v := r.mono (fun b u e _ => same_upd h b u e) fun b z => Or.imp id (fun (z : b = a) => by rw [z]; exact h) z
theorem PureQ.tup {ts : List T} {xs : List V} {Q : VK} (hD : ∀ a, H a = none → ¬ D a) (r : RepL K mg H D ts xs) (k : ∀ w H', Same H H' → OutP K mg H D (.val (.tup ts)) w H' → Q w H') : ∀ p, H p = none → Q (.ref p) (L2.upd H p (.tup xs)) := fun p hp =>
  k _ _ (same_upd hp) (.tup (.inl ⟨.inl upd_same, hD p hp⟩) (r.grow hp))
theorem PureQ.lst {ts : List T} {xs : List V} {Q : VK} (r : RepL K mg H D ts xs) (k : ∀ w H', Same H H' → OutP K mg H D (.own (.lst ts)) w H' → Q w H') : ∀ p, H p = none → Q (.ref p) (L2.upd H p (.lst xs)) := fun p hp =>
  k _ _ (same_upd hp) ⟨p, rfl, hp, xs, upd_same, r.growX hp⟩
theorem RepL.at {ts : List T} {xs : List V} {i : Int} {t : T} (r : RepL K mg H D ts xs) (e : atI ts i = some t) : ∃ v, atI xs i = some v ∧ Rep K mg H D t v := by
  unfold atI at e ⊢
  rw [← r.length]
  cases q : ixN ts.length i with
  | none => rw [q] at e; cases e
  | some j => rw [q] at e; exact r.get e
theorem RepL.cut {ts : List T} {xs : List V} (lo hi : Option Int) (r : RepL K mg H D ts xs) : RepL K mg H D (cutT ts lo hi) (cutV xs lo hi) := by
  unfold cutT cutV
  rw [← r.length]
  exact (r.drop _).take _
theorem cutT_map {α β : Type} (f : α → β) (xs : List α) (lo hi : Option Int) : cutT (xs.map f) lo hi = (cutT xs lo hi).map f := by
  unfold cutT
  rw [List.length_map, List.map_take, List.map_drop]
theorem cutT_length {α : Type} (xs : List α) (lo hi : Option Int) : (cutT xs lo hi).length ≤ xs.length := by
  unfold cutT
  rw [List.length_take, List.length_drop]; omega
theorem RepL.rep {ts : List T} {xs : List V} (r : RepL K mg H D ts xs) : ∀ n : Nat, RepL K mg H D (List.replicate n ts).flatten (List.replicate n xs).flatten
  | 0 => .nil
  | n + 1 => by
    rw [List.replicate_succ, List.replicate_succ, List.flatten_cons, List.flatten_cons]
    exact r.append (r.rep n)
theorem lim_line : LIM ≤ sizeLine := by rw [sizeLine_eq]; decide
theorem lim_line2 {n : Nat} (h : n ≤ LIM) : n ≤ sizeLine := Nat.le_trans h lim_line
theorem lim_ltline {n : Nat} (h : n < LIM) : n < sizeLine := Nat.lt_of_lt_of_le h lim_line
end

/-! ### operators -/
section
variable (K : PySem.W.Frag) (mg : Str → Option Value)
def r2 (f : T → T → Option Out) : R2 := fun x y H Q => ∃ D t u, D2 D H ∧ RepP K mg H D t x ∧ RepP K mg H D u y ∧ PureQ K mg D (f t u) H Q
def r1 (f : T → Option Out) : V → Hp → VK → Prop := fun x H Q => ∃ D t, D2 D H ∧ RepP K mg H D t x ∧ PureQ K mg D (f t) H Q
def rL (f : List T → Option Out) : List V → Hp → VK → Prop := fun xs H Q => ∃ D ts, D2 D H ∧ RepPL K mg H D ts xs ∧ PureQ K mg D (f ts) H Q
end
theorem log2_big {i : Int} (h : i.natAbs < BIG) : i.natAbs.log2 < 4000 := PySem.Flt.log2_lt_of (by decide) h
section
variable {X : Cx}
theorem str_ext {x y : Str} (h : x.cps = y.cps) : x = y := by cases x; cases y; cases h; rfl
theorem foldl_cat (c : Array Nat) : ∀ (n : Nat) (acc : Array Nat), (List.replicate n c).foldl (· ++ ·) acc = (acc.toList ++ (List.replicate n c.toList).flatten).toArray
  | 0, acc => by simp
  | n + 1, acc => by
    rw [List.replicate_succ, List.foldl_cons, foldl_cat c n]
    simp [List.replicate_succ]
theorem o_bin (op : Operator) : OpR X (binaryOp op) (r2 X.K X.mg (binT op)) := by
  intro pins s σ H x y v w Q I rx ry h
  obtain ⟨D, t, u, hD, p, q, out, e, k⟩ := h
  unfold binT at e
  split at e
  · cases e; exact op_add pins s σ H x y v w Q I rx ry ⟨_, _, p.int, q.int, PureQ.val (.int _) k⟩
  · split at e
    · rename_i hl
      cases e; exact op_add_str pins s σ H x y v w Q I rx ry ⟨_, _, p.str, q.str, lim_line2 hl, PureQ.val (.str _) k⟩
    · cases e
  · split at e
    · rename_i hl
      cases e
      obtain ⟨a, xs, ea, ha, la⟩ := p.lst
      obtain ⟨b, ys, eb, hb, lb⟩ := q.lst
      exact op_cat pins s σ H x y v w Q I rx ry ⟨a, b, xs, ys, ea, eb, ha, hb, by rw [← la.length, ← lb.length]; exact lim_line2 hl, PureQ.lst (la.append lb) k⟩
    · cases e
  · split at e
    · rename_i hl
      cases e
      obtain ⟨a, xs, ea, ha, la, ra⟩ := p.tup
      obtain ⟨b, ys, eb, hb, lb, rb⟩ := q.tup
      subst ea eb
      refine op_catA pins s σ H _ _ v w Q I rx ry ⟨a, b, xs, ys, rfl, rfl, ha, hb, by rw [← la.length, ← lb.length]; exact lim_line2 hl, fun e => ?_, fun _ e => ?_, fun _ _ => PureQ.tup hD (la.append lb) k⟩
      · subst e
        cases la
        exact PureQ.val rb k
      · subst e
        cases lb
        exact PureQ.val (by rw [List.append_nil]; exact ra) k
    · cases e
  · cases e; exact op_sub pins s σ H x y v w Q I rx ry ⟨_, _, p.int, q.int, PureQ.val (.int _) k⟩
  · split at e
    · rename_i hl
      cases e
      unfold okMul at hl
      simp only [Bool.and_eq_true, Bool.or_eq_true, decide_eq_true_eq] at hl
      rcases hl with (hl | hl) | hl
      · exact op_mul pins s σ H x y v w Q I rx ry ⟨_, _, p.int, q.int, .inl (by omega), PureQ.val (.int _) k⟩
      · exact op_mul pins s σ H x y v w Q I rx ry ⟨_, _, p.int, q.int, .inr (by omega), PureQ.val (.int _) k⟩
      · exact op_mulW pins s σ H x y v w Q I rx ry ⟨_, _, p.int, q.int, by have h1 := log2_big hl.1; have h2 := log2_big hl.2; unfold CMulW; omega, PureQ.val (.int _) k⟩
    · cases e
  · split at e
    · rename_i hl
      cases e
      obtain ⟨a, xs, ea, ha, la⟩ := p.lst
      exact op_rep pins s σ H x y v w Q I rx ry ⟨a, _, xs, ea, q.int, ha, by omega, by omega, by rw [← la.length]; exact lim_line2 hl.2.2, PureQ.lst (la.rep _) k⟩
    · cases e
  · split at e
    · rename_i x0 k0 hl
      cases e
      have ep := p.str
      have eq := q.int
      subst ep eq
      obtain ⟨t1, rfl⟩ := rx
      obtain ⟨t2, rfl⟩ := ry
      obtain ⟨h0, h1, h2⟩ := hl
      refine PySem.P.mul_str (by rw [decide_eq_false (by omega), decide_eq_false (by omega)]; rfl) (fun hn _ => ?_) (fun hn _ => ?_) ?_
      · have : (1000 : Int) ≤ (2 ^ 63 - 1) / k0 := by
          refine Int.le_ediv_of_mul_le (by omega) ?_
          have : (1000 : Int) * k0 ≤ 1000 * 1000 := Int.mul_le_mul_of_nonneg_left h1 (by omega)
          omega
        omega
      · have hm : x0.length * k0.toNat ≤ 1000 * 1000 := Nat.mul_le_mul h2 (by omega)
        refine decide_eq_false ?_
        rw [sizeLine_eq]
        omega
      · have key : ∀ (tk : Tok) (y : Str) (s' : Shared), y = strRep x0 k0.toNat → Inv X pins σ H s' → EP X pins σ Q (Value.str y tk) s' := fun tk y s' ey I' => ⟨.str y, H, I', ⟨tk, rfl⟩, by rw [ey]; exact PureQ.val (.str _) k⟩
        split
        · rename_i hn
          refine ⟨Nat.zero_le _, key _ _ _ ?_ (I.tok _)⟩
          have : k0.toNat = 0 := by omega
          rw [this]; rfl
        · split
          · rename_i hn h10
            refine key _ _ _ ?_ I
            simp only [Bool.or_eq_true, beq_iff_eq] at h10
            rcases h10 with h10 | h10
            · subst h10
              refine str_ext ?_
              simp [strRep]
            · refine str_ext ?_
              have hz : x0.cps = #[] := Array.eq_empty_of_size_eq_zero h10
              rw [hz]
              simp [strRep, hz]
          · refine ⟨?_, key _ _ _ ?_ (I.tok _)⟩
            · rw [foldl_cat]
              have hm : x0.length * k0.toNat ≤ 1000 * 1000 := Nat.mul_le_mul h2 (by omega)
              show (Array.size _) ≤ _
              rw [sizeLine_eq]
              have hl : x0.cps.size = x0.length := rfl
              simp [List.length_flatten, hl]
              rw [Nat.mul_comm] at hm
              omega
            · refine str_ext ?_
              rw [foldl_cat]
              simp [strRep]
    · cases e
  · split at e
    · rename_i hl
      cases e
      obtain ⟨a, xs, ea, ha, la, _⟩ := p.tup
      have hll := la.length
      exact op_repT pins s σ H x y v w Q I rx ry ⟨a, _, xs, ea, q.int, ha, (fun z => by rw [z] at hll; simp only [List.length_nil] at hll; omega), by omega, by omega, by omega, PureQ.tup hD (la.rep _) k⟩
    · cases e
  · split at e
    · cases e; exact op_mod pins s σ H x y v w Q I rx ry ⟨_, _, p.int, q.int, by assumption, PureQ.val (.int _) k⟩
    · cases e
  · split at e
    · rename_i hl
      cases e
      unfold okDiv at hl
      simp only [Bool.and_eq_true, decide_eq_true_eq] at hl
      exact op_fdivW pins s σ H x y v w Q I rx ry ⟨_, _, p.int, q.int, ⟨hl.1, by have := log2_big hl.2; omega⟩, PureQ.val (.int _) k⟩
    · cases e
  · split at e
    · rename_i hl
      cases e; exact op_pow pins s σ H x y v w Q I rx ry ⟨_, _, p.int, q.int, hl, PureQ.val (.int _) k⟩
    · cases e
  · cases e
end
end VL

set_option maxHeartbeats 2000000
namespace VL
open PySem PySem.Spec PyProof.Rows L2

/-! ### == -/
theorem canI : ∀ ns : List Int, PyData.canLayAll0 (ns.map PyData.int) = true
  | [] => rfl
  | n :: ns => by simp only [List.map_cons, PyData.canLayAll0, PyData.canLay0, canI ns, Bool.and_self]
theorem depI : ∀ ns : List Int, PyData.depthAll (ns.map PyData.int) = 0
  | [] => by simp [PyData.depthAll]
  | n :: ns => by simp [PyData.depthAll, PyData.depth, depI ns]
mutual
theorem shp : ∀ (n : Nat) (t : T), datT n t = true → (toPD t).canLay0 = true ∧ (toPD t).depth ≤ n
  | n, .non, _ => by simp [toPD, PyData.canLay0, PyData.depth]
  | n, .bl b, _ => by simp [toPD, PyData.canLay0, PyData.depth]
  | n, .int i, _ => by simp [toPD, PyData.canLay0, PyData.depth]
  | n, .str s, h => by
    have h' : PyData.strOk s = true := by cases n <;> simpa [datT] using h
    simp [toPD, PyData.canLay0, PyData.depth, h']
  | 0, .tup ts, h => by simp [datT] at h
  | n + 1, .tup ts, h => by
    obtain ⟨a, b⟩ := shpL n ts (by simpa [datT] using h)
    exact ⟨by simpa [toPD, PyData.canLay0] using a, by simpa [toPD, PyData.depth] using b⟩
  | 0, .lst ts, h => by simp [datT] at h
  | n + 1, .lst ts, h => by
    obtain ⟨a, b⟩ := shpL n ts (by simpa [datT] using h)
    exact ⟨by simpa [toPD, PyData.canLay0] using a, by simpa [toPD, PyData.depth] using b⟩
  | 0, .scr ns, h => by simp [datT] at h
  | n + 1, .scr ns, _ => ⟨by simp [toPD, PyData.canLay0, canI], by simp [toPD, PyData.depth, depI]⟩
  | n, .dct _ _, h => by cases n <;> simp [datT] at h
  | n, .dtt _ _, h => by cases n <;> simp [datT] at h
  | n, .ins _ _ _, h => by cases n <;> simp [datT] at h
  | n, .exc _ _ _, h => by cases n <;> simp [datT] at h
theorem shpL : ∀ (n : Nat) (ts : List T), datTL n ts = true → PyData.canLayAll0 (toPDL ts) = true ∧ PyData.depthAll (toPDL ts) ≤ n
  | n, [], _ => by simp [toPDL, PyData.canLayAll0, PyData.depthAll]
  | n, t :: ts, h => by
    have h' : datT n t = true ∧ datTL n ts = true := by simpa [datTL] using h
    obtain ⟨a, b⟩ := shp n t h'.1
    obtain ⟨c, d⟩ := shpL n ts h'.2
    exact ⟨by simp [toPDL, PyData.canLayAll0, a, c], by simp only [toPDL, PyData.depthAll]; omega⟩
end
theorem shaped_of {t : T} (h : datT 60 t = true) : SeqAt.shaped (toPD t) = true := by
  obtain ⟨a, b⟩ := shp 60 t h
  unfold SeqAt.shaped
  rw [a, Bool.true_and]
  exact decide_eq_true (by omega)
section
variable {K : PySem.W.Frag} {mg : Str → Option Value} {H : Hp} {D : Addr → Prop}
theorem dp_ints : ∀ ns : List Int, DpAll K H (ns.map V.int) (ns.map PyData.int)
  | [] => .nil
  | n :: ns => .cons (.int n) (dp_ints ns)
mutual
theorem dp_rep : ∀ (n : Nat) (t : T) (v : V), datT n t = true → Rep K mg H D t v → Dp K H v (toPD t)
  | n, .non, _, _, .non => by simpa [toPD] using Dp.non
  | n, .bl b, _, _, .bl _ => by simpa [toPD] using Dp.bl b
  | n, .int b, _, _, .int _ => by simpa [toPD] using Dp.int b
  | n, .str b, _, _, .str _ => by simpa [toPD] using Dp.str b
  | 0, .tup ts, _, h, _ => by simp [datT] at h
  | n + 1, .tup ts, _, h, .tup s l => by
    rw [toPD]
    exact .tup s.sq (dp_repL n ts _ (by simpa [datT] using h) l)
  | 0, .lst ts, _, h, _ => by simp [datT] at h
  | n + 1, .lst ts, _, h, .lst s _ l => by
    rw [toPD]
    exact .lst (.of s) (dp_repL n ts _ (by simpa [datT] using h) l)
  | n, .scr ns, _, _, .scr s => by
    rw [toPD]
    exact .lst s.sq (dp_ints ns)
  | n, .dct _ _, _, h, _ => by cases n <;> simp [datT] at h
  | n, .dtt _ _, _, h, _ => by cases n <;> simp [datT] at h
  | n, .ins _ _ _, _, h, _ => by cases n <;> simp [datT] at h
  | n, .exc _ _ _, _, h, _ => by cases n <;> simp [datT] at h
theorem dp_repL : ∀ (n : Nat) (ts : List T) (vs : List V), datTL n ts = true → RepL K mg H D ts vs → DpAll K H vs (toPDL ts)
  | n, [], _, _, .nil => by rw [toPDL]; exact .nil
  | n, t :: ts, _, h, .cons r l => by
    have h' : datT n t = true ∧ datTL n ts = true := by simpa [datTL] using h
    rw [toPDL]
    exact .cons (dp_rep n t _ h'.1 r) (dp_repL n ts _ h'.2 l)
end
theorem dp_repP {n : Nat} {t : T} {v : V} (h : datT n t = true) (r : RepP K mg H D t v) : Dp K H v (toPD t) := by
  rcases r with r | ⟨a, rfl, r⟩
  · exact dp_rep n t v h r
  · cases t with
    | lst ts =>
      obtain ⟨xs, h1, l⟩ := r
      cases n with
      | zero => simp [datT] at h
      | succ n =>
        rw [toPD]
        exact .lst (.of h1) (dp_repL n ts _ (by simpa [datT] using h) l)
    | dct _ _ => cases n <;> simp [datT] at h
    | dtt _ _ => cases n <;> simp [datT] at h
    | _ => exact r.elim
end

/-! ### in -/
theorem flat_rep {K : PySem.W.Frag} {mg : Str → Option Value} {H : Hp} {D : Addr → Prop} {t : T} {v : V} (f : flatT t = true) (r : Rep K mg H D t v) : flatV v = true := by
  cases r <;> first | rfl | (simp [flatT] at f)
theorem flat_repP {K : PySem.W.Frag} {mg : Str → Option Value} {H : Hp} {D : Addr → Prop} {t : T} {v : V} (f : flatT t = true) (r : RepP K mg H D t v) : Rep K mg H D t v := by
  rcases r with r | ⟨a, e, r⟩
  · exact r
  · cases t <;> first | exact r.elim | (simp [flatT] at f)
theorem eq_flat {K : PySem.W.Frag} {mg : Str → Option Value} {H : Hp} {D : Addr → Prop} {t u : T} {v w : V} (f : flatT t = true) (g : flatT u = true) (r : Rep K mg H D t v) (q : Rep K mg H D u w) : eqV v w = eqT t u := by
  cases r <;> first | (exfalso; simp [flatT] at f; done) | (cases q <;> first | (exfalso; simp [flatT] at g; done) | simp [eqV, eqT, toPD, PyData.eqv])
theorem in_flat {K : PySem.W.Frag} {mg : Str → Option Value} {H : Hp} {D : Addr → Prop} {t : T} {v : V} (f : flatT t = true) (r : Rep K mg H D t v) : ∀ {ts : List T} {vs : List V}, ts.all flatT = true → RepL K mg H D ts vs → vs.all flatV = true ∧ inV v vs = inT t ts
  | _, _, _, .nil => ⟨rfl, rfl⟩
  | u :: ts, w :: vs, h, .cons q l => by
    simp only [List.all_cons, Bool.and_eq_true] at h
    obtain ⟨a, b⟩ := in_flat f r h.2 l
    refine ⟨by simp [a, flat_rep h.1 q], ?_⟩
    unfold inV inT at b ⊢
    simp only [List.any_cons, b, eq_flat h.1 f q r]

section
variable {X : Cx}
theorem PureQ.bl {K : PySem.W.Frag} {mg : Str → Option Value} {H : Hp} {D : Addr → Prop} {Q : VK} {b : Bool} (k : ∀ w H', Same H H' → OutP K mg H D (.val (.bl b)) w H' → Q w H') : Q (.bl b) H := PureQ.val (.bl b) k
theorem one_sign {c : Str} (h : c.length = 1) : c = ⟨#[c.cps.getD 0 0]⟩ := by
  refine str_ext ?_
  have h' : c.cps.size = 1 := h
  refine Array.ext (by simpa using h') fun i h1 h2 => ?_
  have : i = 0 := by omega
  subst this
  simp [Array.getD, h']
theorem o_cmp (op : CmpOp) (hu : X.A.units + 64 < cLine) : OpR X (compareOp op) (fun x y H Q => ∃ D t u, D2 D H ∧ RepP X.K X.mg H D t x ∧ RepP X.K X.mg H D u y ∧ ∃ b, cmpT op t u = some b ∧ Q (.bl b) H) := by
  intro pins s σ H x y v w Q I rx ry h
  obtain ⟨D, t, u, hD, p, q, b, e, k⟩ := h
  unfold cmpT at e
  split at e
  · cases e; exact op_lt pins s σ H x y v w Q I rx ry ⟨_, _, p.int, q.int, k⟩
  · cases e; exact op_le pins s σ H x y v w Q I rx ry ⟨_, _, p.int, q.int, k⟩
  · cases e; exact op_gt pins s σ H x y v w Q I rx ry ⟨_, _, p.int, q.int, k⟩
  · cases e; exact op_ge pins s σ H x y v w Q I rx ry ⟨_, _, p.int, q.int, k⟩
  · cases e
    have e1 := p.str
    have e2 := q.str
    subst e1 e2
    exact op_eq pins s σ H _ _ v w Q I rx ry ⟨rfl, by rw [dec_str]; exact k⟩
  · cases e
    have e1 := p.str
    have e2 := q.str
    subst e1 e2
    exact op_ne pins s σ H _ _ v w Q I rx ry ⟨rfl, by rw [dec_str]; exact k⟩
  · split at e
    · rename_i hd
      cases e
      simp only [Bool.and_eq_true] at hd
      exact op_eqD hu pins s σ H x y v w Q I rx ry ⟨_, _, dp_repP hd.1 p, dp_repP hd.2 q, shaped_of hd.1, shaped_of hd.2, k⟩
    · cases e
  · split at e
    · rename_i hd
      cases e
      simp only [Bool.and_eq_true] at hd
      exact op_neD hu pins s σ H x y v w Q I rx ry ⟨_, _, dp_repP hd.1 p, dp_repP hd.2 q, shaped_of hd.1, shaped_of hd.2, k⟩
    · cases e
  · split at e
    · rename_i hl
      cases e
      have e1 := p.str
      have e2 := q.str
      subst e1 e2
      exact op_in_sign pins s σ H _ _ v w Q I rx ry ⟨_, _, by rw [← one_sign hl], rfl, k⟩
    · cases e
  · split at e
    · rename_i hd
      cases e
      simp only [Bool.and_eq_true] at hd
      obtain ⟨a, xs, ea, ha, la⟩ := q.lst
      obtain ⟨f1, f2⟩ := in_flat hd.1 (flat_repP hd.1 p) hd.2 la
      exact op_in_seq pins s σ H x y v w Q I rx ry ⟨a, xs, ea, .inl (.of ha), flat_rep hd.1 (flat_repP hd.1 p), f1, by rw [f2]; exact k⟩
    · cases e
  · split at e
    · rename_i hd
      cases e
      simp only [Bool.and_eq_true] at hd
      obtain ⟨a, xs, ea, ha, la, _⟩ := q.tup
      obtain ⟨f1, f2⟩ := in_flat hd.1 (flat_repP hd.1 p) hd.2 la
      exact op_in_seq pins s σ H x y v w Q I rx ry ⟨a, xs, ea, .inr ha, flat_rep hd.1 (flat_repP hd.1 p), f1, by rw [f2]; exact k⟩
    · cases e
  · split at e
    · rename_i hl
      cases e
      have e1 := p.str
      have e2 := q.str
      subst e1 e2
      exact op_notIn_sign pins s σ H _ _ v w Q I rx ry ⟨_, _, by rw [← one_sign hl], rfl, k⟩
    · cases e
  · split at e
    · rename_i hd
      cases e
      simp only [Bool.and_eq_true] at hd
      obtain ⟨a, xs, ea, ha, la⟩ := q.lst
      obtain ⟨f1, f2⟩ := in_flat hd.1 (flat_repP hd.1 p) hd.2 la
      exact op_notIn_seq pins s σ H x y v w Q I rx ry ⟨a, xs, ea, .inl (.of ha), flat_rep hd.1 (flat_repP hd.1 p), f1, by rw [f2]; exact k⟩
    · cases e
  · split at e
    · rename_i hd
      cases e
      simp only [Bool.and_eq_true] at hd
      obtain ⟨a, xs, ea, ha, la, _⟩ := q.tup
      obtain ⟨f1, f2⟩ := in_flat hd.1 (flat_repP hd.1 p) hd.2 la
      exact op_notIn_seq pins s σ H x y v w Q I rx ry ⟨a, xs, ea, .inr ha, flat_rep hd.1 (flat_repP hd.1 p), f1, by rw [f2]; exact k⟩
    · cases e
  · cases e
end
end VL

set_option maxHeartbeats 2000000
namespace VL
open PySem PySem.Spec PyProof.Rows L2

section
variable {X : Cx}
theorem o_ix : IxR X (fun x y H Q => ∃ D t u, RepP X.K X.mg H D t x ∧ RepP X.K X.mg H D u y ∧ PureQ X.K X.mg D ((ixT t u).map Out.val) H Q) := by
  intro value slice pins s σ H x y v w Q I rx ry h hs
  obtain ⟨D, t, u, p, q, out, e, k⟩ := h
  cases ez : ixT t u with
  | none => rw [ez] at e; cases e
  | some z =>
    rw [ez] at e
    cases e
    unfold ixT at ez
    split at ez
    · obtain ⟨a, xs, ea, ha, la⟩ := p.lst
      obtain ⟨vv, ev, rv⟩ := la.at ez
      exact ix_list value slice pins s σ H x y v w Q I rx ry ⟨a, xs, _, vv, ea, q.int, .of ha, ev, PureQ.val rv k⟩ hs
    · obtain ⟨a, xs, ea, ha, la, _⟩ := p.tup
      obtain ⟨vv, ev, rv⟩ := la.at ez
      exact ix_tup value slice pins s σ H x y v w Q I rx ry ⟨a, xs, _, vv, ea, q.int, ha, ev, PureQ.val rv k⟩ hs
    · rename_i ns i
      obtain ⟨a, ea, ha⟩ := p.scr
      obtain ⟨n, en, ez⟩ := Option.map_eq_some_iff.mp ez
      subst ez
      refine ix_list value slice pins s σ H x y v w Q I rx ry ⟨a, _, _, .int n, ea, q.int, ha, ?_, PureQ.val (.int n) k⟩ hs
      unfold atI at en ⊢
      rw [List.length_map]
      cases qj : ixN ns.length i with
      | none => rw [qj] at en; cases en
      | some j =>
        rw [qj] at en
        simp only [Option.bind_some] at en ⊢
        rw [List.getElem?_map, en]; rfl
    · split at ez
      · rename_i hl
        obtain ⟨c, ec, ez⟩ := Option.map_eq_some_iff.mp ez
        subst ez
        exact ix_str value slice pins s σ H x y v w Q I rx ry ⟨_, _, c, p.str, q.int, lim_line2 hl, ec, PureQ.val (.str _) k⟩ hs
      · cases ez
    · cases ez
theorem o_sl : SlR X (fun x lo hi H Q => ∃ D t, D2 D H ∧ RepP X.K X.mg H D t x ∧ PureQ X.K X.mg D (slT t lo hi) H Q) := by
  intro pins s σ H x v vl vu lo hi sl Q I rx hs pl pu h
  obtain ⟨D, t, hD, p, out, e, k⟩ := h
  unfold slT at e
  split at e
  · cases e
    obtain ⟨a, xs, ea, ha, la⟩ := p.lst
    exact sl_list pins s σ H x v vl vu lo hi sl Q I rx hs pl pu ⟨a, xs, ea, .of ha, PureQ.lst (la.cut lo hi) k⟩
  · cases e
    obtain ⟨a, ea, ha⟩ := p.scr
    refine sl_list pins s σ H x v vl vu lo hi sl Q I rx hs pl pu ⟨a, _, ea, ha, PureQ.lst ?_ k⟩
    rw [show cutV (List.map V.int _) lo hi = cutT (List.map V.int _) lo hi from rfl, cutT_map]
    exact RepL.of_ints _
  · cases e
    obtain ⟨a, xs, ea, ha, la, ra⟩ := p.tup
    refine sl_tupA pins s σ H x v vl vu lo hi sl Q I rx hs pl pu ⟨a, xs, ea, ha, fun hw => ?_, fun _ => PureQ.tup hD (la.cut lo hi) k⟩
    rename_i ts
    have e0 : cutT ts lo hi = ts := by
      unfold cutT
      rw [la.length, hw.1, hw.2, ← la.length]
      simp
    refine PureQ.val ?_ k
    rw [e0, ← ea]; exact ra
  · split at e
    · rename_i z hl
      cases e
      have ex := p.str
      subst ex
      exact sl_str pins s σ H _ v vl vu lo hi sl Q I rx hs pl pu ⟨z, rfl, lim_line2 hl, PureQ.val (.str _) k⟩
    · cases e
  · cases e
theorem o_neg : UnR X (unaryOp .USub) (r1 X.K X.mg fun t => match t with
    | .int i => some (.val (.int (-i)))
    | _ => none) := by
  intro pins s σ H x v Q I rx h
  obtain ⟨D, t, hD, p, out, e, k⟩ := h
  dsimp only at e
  split at e
  · cases e
    exact un_neg pins s σ H x v Q I rx ⟨_, p.int, PureQ.val (.int _) k⟩
  · cases e
theorem o_tru : TruR X (fun x H Q => ∃ D t b, RepP X.K X.mg H D t x ∧ truT t = some b ∧ Q b H) := by
  intro pins s σ H x v Q I rx h
  obtain ⟨D, t, b, p, e, k⟩ := h
  refine tru_ok pins s σ H x v Q I rx ⟨b, ?_, k⟩
  unfold truT at e
  split at e
  · cases e; rw [p.non]; exact rfl
  · cases e; rw [p.bl]; exact rfl
  · cases e; rw [p.int]; exact rfl
  · split at e
    · rename_i hl
      cases e; rw [p.str]
      refine ⟨lim_line2 hl, ?_⟩
      show _ = _
      rw [Bool.eq_iff_iff]
      simp only [bne_iff_ne, ne_eq]
      omega
    · cases e
  · cases e
    obtain ⟨a, xs, ea, ha, la⟩ := p.lst
    rw [ea]
    refine .inl ⟨xs, .of ha, ?_⟩
    cases la <;> rfl
  · cases e
    obtain ⟨a, xs, ea, ha, la, _⟩ := p.tup
    rw [ea]
    refine .inr (.inl ⟨xs, ha, ?_⟩)
    cases la <;> rfl
  · cases e

/-! ### builtins -/
theorem intsT_eq : ∀ {ts : List T} {ns : List Int}, intsT ts = some ns → ts = ns.map T.int
  | [], _, e => by cases e; rfl
  | t :: ts, ns, e => by
    unfold intsT at e
    split at e
    · rename_i hz; cases hz
    · rename_i i r hz
      cases hz
      obtain ⟨ms, em, en⟩ := Option.map_eq_some_iff.mp e
      subst en
      rw [intsT_eq em]; rfl
    · cases e
theorem strsT_eq : ∀ {ts : List T} {ns : List Str}, strsT ts = some ns → ts = ns.map T.str
  | [], _, e => by cases e; rfl
  | t :: ts, ns, e => by
    unfold strsT at e
    split at e
    · rename_i hz; cases hz
    · rename_i i r hz
      cases hz
      obtain ⟨ms, em, en⟩ := Option.map_eq_some_iff.mp e
      subst en
      rw [strsT_eq em]; rfl
    · cases e
theorem blsT_eq : ∀ {ts : List T} {ns : List Bool}, blsT ts = some ns → ts = ns.map T.bl
  | [], _, e => by cases e; rfl
  | t :: ts, ns, e => by
    unfold blsT at e
    split at e
    · rename_i hz; cases hz
    · rename_i i r hz
      cases hz
      obtain ⟨ms, em, en⟩ := Option.map_eq_some_iff.mp e
      subst en
      rw [blsT_eq em]; rfl
    · cases e
theorem foldl_max : ∀ (xs : List Int) (x : Int), x ≤ xs.foldl (fun a b => if b > a then b else a) x ∧ (∀ y ∈ xs, y ≤ xs.foldl (fun a b => if b > a then b else a) x) ∧ (xs.foldl (fun a b => if b > a then b else a) x = x ∨ xs.foldl (fun a b => if b > a then b else a) x ∈ xs)
  | [], x => ⟨Int.le_refl _, ⟨(fun y h => by cases h), .inl rfl⟩⟩
  | y :: ys, x => by
    rw [List.foldl_cons]
    obtain ⟨h1, h2, h3⟩ := foldl_max ys (if y > x then y else x)
    have hx : x ≤ (if y > x then y else x) ∧ y ≤ (if y > x then y else x) ∧ ((if y > x then y else x) = x ∨ (if y > x then y else x) = y) := by
      by_cases c : y > x
      · rw [if_pos c]; exact ⟨by omega, Int.le_refl _, .inr rfl⟩
      · rw [if_neg c]; exact ⟨Int.le_refl _, by omega, .inl rfl⟩
    refine ⟨Int.le_trans hx.1 h1, fun z hz => ?_, ?_⟩
    · rcases List.mem_cons.mp hz with rfl | hz
      · exact Int.le_trans hx.2.1 h1
      · exact h2 z hz
    · rcases h3 with h3 | h3
      · rw [h3]
        rcases hx.2.2 with q | q
        · exact .inl q
        · rw [q]; exact .inr List.mem_cons_self
      · exact .inr (List.mem_cons_of_mem _ h3)
theorem foldl_min : ∀ (xs : List Int) (x : Int), xs.foldl (fun a b => if b < a then b else a) x ≤ x ∧ (∀ y ∈ xs, xs.foldl (fun a b => if b < a then b else a) x ≤ y) ∧ (xs.foldl (fun a b => if b < a then b else a) x = x ∨ xs.foldl (fun a b => if b < a then b else a) x ∈ xs)
  | [], x => ⟨Int.le_refl _, ⟨(fun y h => by cases h), .inl rfl⟩⟩
  | y :: ys, x => by
    rw [List.foldl_cons]
    obtain ⟨h1, h2, h3⟩ := foldl_min ys (if y < x then y else x)
    have hx : (if y < x then y else x) ≤ x ∧ (if y < x then y else x) ≤ y ∧ ((if y < x then y else x) = x ∨ (if y < x then y else x) = y) := by
      by_cases c : y < x
      · rw [if_pos c]; exact ⟨by omega, Int.le_refl _, .inr rfl⟩
      · rw [if_neg c]; exact ⟨Int.le_refl _, by omega, .inl rfl⟩
    refine ⟨Int.le_trans h1 hx.1, fun z hz => ?_, ?_⟩
    · rcases List.mem_cons.mp hz with rfl | hz
      · exact Int.le_trans h1 hx.2.1
      · exact h2 z hz
    · rcases h3 with h3 | h3
      · rw [h3]
        rcases hx.2.2 with q | q
        · exact .inl q
        · rw [q]; exact .inr List.mem_cons_self
      · exact .inr (List.mem_cons_of_mem _ h3)
theorem maxI_is {ns : List Int} {m : Int} (h : maxI ns = some m) : 0 < ns.length ∧ ∀ x, x ∈ ns → (∀ y, y ∈ ns → y ≤ x) → x = m := by
  cases ns with
  | nil => cases h
  | cons a as =>
    cases h
    obtain ⟨h1, h2, h3⟩ := foldl_max as a
    refine ⟨by simp, fun x hx hm => ?_⟩
    have u : as.foldl (fun a b => if b > a then b else a) a ∈ a :: as := by
      rcases h3 with h3 | h3
      · rw [h3]; exact List.mem_cons_self
      · exact List.mem_cons_of_mem _ h3
    have := hm _ u
    rcases List.mem_cons.mp hx with rfl | hx
    · omega
    · have := h2 x hx; omega
theorem minI_is {ns : List Int} {m : Int} (h : minI ns = some m) : 0 < ns.length ∧ ∀ x, x ∈ ns → (∀ y, y ∈ ns → x ≤ y) → x = m := by
  cases ns with
  | nil => cases h
  | cons a as =>
    cases h
    obtain ⟨h1, h2, h3⟩ := foldl_min as a
    refine ⟨by simp, fun x hx hm => ?_⟩
    have u : as.foldl (fun a b => if b < a then b else a) a ∈ a :: as := by
      rcases h3 with h3 | h3
      · rw [h3]; exact List.mem_cons_self
      · exact List.mem_cons_of_mem _ h3
    have := hm _ u
    rcases List.mem_cons.mp hx with rfl | hx
    · omega
    · have := h2 x hx; omega
theorem insI_perm (x : Int) : ∀ ys : List Int, (insI x ys).Perm (x :: ys)
  | [] => .refl _
  | y :: ys => by
    unfold insI
    split
    · exact .refl _
    · exact ((insI_perm x ys).cons y).trans (.swap x y ys)
theorem sortI_perm : ∀ xs : List Int, (sortI xs).Perm xs
  | [] => .refl _
  | x :: xs => (insI_perm x _).trans ((sortI_perm xs).cons x)
theorem insI_sorted (x : Int) : ∀ ys : List Int, ys.Pairwise (· ≤ ·) → (insI x ys).Pairwise (· ≤ ·)
  | [], _ => by simp [insI]
  | y :: ys, h => by
    unfold insI
    have h' := List.pairwise_cons.mp h
    split
    · rename_i c
      refine List.pairwise_cons.mpr ⟨fun z hz => ?_, h⟩
      rcases List.mem_cons.mp hz with rfl | hz
      · exact c
      · exact Int.le_trans c (h'.1 z hz)
    · rename_i c
      refine List.pairwise_cons.mpr ⟨fun z hz => ?_, insI_sorted x ys h'.2⟩
      rcases List.mem_cons.mp ((insI_perm x ys).mem_iff.mp hz) with rfl | hz
      · omega
      · exact h'.1 z hz
theorem sortI_sorted : ∀ xs : List Int, (sortI xs).Pairwise (· ≤ ·)
  | [] => .nil
  | x :: xs => insI_sorted x _ (sortI_sorted xs)
theorem sorted_unique : ∀ {xs ys : List Int}, xs.Perm ys → xs.Pairwise (· ≤ ·) → ys.Pairwise (· ≤ ·) → xs = ys := fun {xs ys} p h1 h2 =>
  List.Perm.eq_of_pairwise (fun a b _ _ h h' => Int.le_antisymm h h') h1 h2 p
theorem RepPL.one {K : PySem.W.Frag} {mg : Str → Option Value} {H : Hp} {D : Addr → Prop} {t : T} {vs : List V} (h : RepPL K mg H D [t] vs) : ∃ v, vs = [v] ∧ RepP K mg H D t v := by
  cases h with
  | cons r l => cases l; exact ⟨_, rfl, r⟩
theorem RepPL.two {K : PySem.W.Frag} {mg : Str → Option Value} {H : Hp} {D : Addr → Prop} {t u : T} {vs : List V} (h : RepPL K mg H D [t, u] vs) : ∃ v w, vs = [v, w] ∧ RepP K mg H D t v ∧ RepP K mg H D u w := by
  cases h with
  | cons r l =>
    cases l with
    | cons r2 l2 => cases l2; exact ⟨_, _, rfl, r, r2⟩
/-- the builtin's value by its name -/
def biV : Bi → Value
  | .len => .builtin "len" | .abs => .builtin "abs" | .max => .builtin "max" | .min => .builtin "min" | .sum => .builtin "sum" | .any => .builtin "any" | .all => .builtin "all" | .sorted => .builtin "sorted"
  | .list => .type "list" | .tuple => .type "tuple" | .int => .type "int" | .str => .type "str" | .divmod => .builtin "divmod" | .dict => .type "dict" | .sortedSet => .none | .lenSet => .none | .ktup => .type "tuple"
/-! ### sorted, of tuples of a number, a text, a number -/
theorem triT_eq : ∀ {ts : List T} {ps : List Tri}, triT ts = some ps → ts = ps.map tri1
  | [], _, e => by cases e; rfl
  | t :: ts, ps, e => by
    unfold triT at e
    split at e
    · rename_i hz; cases hz
    · rename_i a s b r hz
      cases hz
      obtain ⟨ms, em, en⟩ := Option.map_eq_some_iff.mp e
      subst en
      rw [triT_eq em]; rfl
    · cases e
def TriV (K : PySem.W.Frag) (H : Hp) (x : V) (p : Tri) : Prop := ∃ t : Addr, x = .ref t ∧ SqT K H t [.int p.1, .str p.2.1, .int p.2.2]
theorem tri_rep {K : PySem.W.Frag} {mg : Str → Option Value} {H : Hp} {D : Addr → Prop} {p : Tri} {v : V} (h : Rep K mg H D (tri1 p) v) : TriV K H v p := by
  unfold tri1 at h
  cases h with
  | tup h1 l =>
    cases l with
    | cons r1 l =>
      cases l with
      | cons r2 l =>
        cases l with
        | cons r3 l =>
          cases l
          cases r1
          cases r2
          cases r3
          exact ⟨_, rfl, h1.sq⟩
theorem tri_all {K : PySem.W.Frag} {mg : Str → Option Value} {H : Hp} {D : Addr → Prop} : ∀ {ps : List Tri} {xs : List V}, RepL K mg H D (ps.map tri1) xs → PySem.W.EachIs (fun x p => Rep K mg H D (tri1 p) x) xs ps
  | [], _, .nil => .nil
  | p :: ps, _, .cons r l => .cons r (tri_all l)
theorem repL_of {K : PySem.W.Frag} {mg : Str → Option Value} {H : Hp} {D : Addr → Prop} : ∀ {ps : List Tri} {xs : List V}, PySem.W.EachIs (fun x p => Rep K mg H D (tri1 p) x) xs ps → RepL K mg H D (ps.map tri1) xs
  | _, _, .nil => .nil
  | _, _, .cons r l => .cons r (repL_of l)
theorem each_map {α β γ : Type} {R : α → β → Prop} {S : γ → β → Prop} {f : α → γ} (h : ∀ a b, R a b → S (f a) b) : ∀ {as : List α} {bs : List β}, PySem.W.EachIs R as bs → PySem.W.EachIs S (as.map f) bs
  | _, _, .nil => .nil
  | _, _, .cons r l => .cons (h _ _ r) (each_map h l)
theorem each_imp {α β : Type} {R S : α → β → Prop} (h : ∀ a b, R a b → S a b) : ∀ {as : List α} {bs : List β}, PySem.W.EachIs R as bs → PySem.W.EachIs S as bs
  | _, _, .nil => .nil
  | _, _, .cons r l => .cons (h _ _ r) (each_imp h l)
theorem each_unmap {α β γ : Type} {S : γ → β → Prop} {f : α → γ} : ∀ {as : List α} {bs : List β}, PySem.W.EachIs S (as.map f) bs → PySem.W.EachIs (fun a b => S (f a) b) as bs
  | [], _, .nil => .nil
  | _ :: _, _, .cons r l => .cons r (each_unmap l)
theorem each_both {α β : Type} {R : α → β → Prop} {P : α → Prop} : ∀ {as : List α} {bs : List β}, PySem.W.EachIs R as bs → (∀ a ∈ as, P a) → PySem.W.EachIs (fun a b => R a b ∧ P a) as bs
  | _, _, .nil, _ => .nil
  | _, _, .cons r l, h => .cons ⟨r, h _ List.mem_cons_self⟩ (each_both l fun a ha => h a (List.mem_cons_of_mem _ ha))
theorem each_len {α β : Type} {R : α → β → Prop} : ∀ {as : List α} {bs : List β}, PySem.W.EachIs R as bs → as.length = bs.length
  | _, _, .nil => rfl
  | _, _, .cons _ l => by rw [List.length_cons, List.length_cons, each_len l]
theorem each_mem {α β : Type} {R : α → β → Prop} : ∀ {as : List α} {bs : List β}, PySem.W.EachIs R as bs → ∀ a ∈ as, ∃ b, R a b
  | _, _, .cons r l, a, h => by
    rcases List.mem_cons.mp h with rfl | h
    · exact ⟨_, r⟩
    · exact each_mem l a h
theorem tri_reads {pins : List (Addr × Obj)} {σ : L2.St} {H : Hp} {s : Shared} (I : L2.Inv X pins σ H s) {t : Addr} {p : Tri} (h : SqT X.K H t [.int p.1, .str p.2.1, .int p.2.2]) : ∃ as, Reads s.heap (.ref t) (triE p) as := by
  obtain ⟨its, rv, ht, _⟩ := I.tuple h
  cases rv with
  | cons r1 rv =>
    cases rv with
    | cons r2 rv =>
      cases rv with
      | cons r3 rv =>
        cases rv
        obtain ⟨t1, rfl⟩ := r1
        obtain ⟨t2, rfl⟩ := r2
        obtain ⟨t3, rfl⟩ := r3
        obtain ⟨o, h1, h2, n, h3⟩ := ht
        exact ⟨_, .tuple h1 h2 h3 (.cons (.int _ _) (.cons (.str _ _) (.cons (.int _ _) .nil)))⟩
theorem cr_tri (hu : X.A.units + 64 < cLine) : CallR X (.builtin "sorted") (fun vs H Q => ∃ (a : Addr) (xs : List V) (ps : List Tri) (R : V → Tri → Prop), vs = [.ref a] ∧ H a = some (.lst xs) ∧ PySem.W.EachIs R xs ps ∧ (∀ x p, R x p → TriV X.K H x p) ∧ ps.length ≤ sizeLine ∧ ∀ (ys : List V) (p : Addr), PySem.W.EachIs R ys (sortTri ps) → H p = none → Q (.ref p) (upd H p (.lst ys))) := by
  intro pins s σ H vs us Q I r h
  obtain ⟨a, xs, ps, R, rfl, ha, hE, hR, hl, k⟩ := h
  cases r with
  | cons r rr =>
    cases rr
    have r : _ = Value.ref a := r
    subst r
    obtain ⟨its, rv, pl, hz⟩ := I.list (.of ha)
    obtain ⟨eb, hrefs⟩ := refs_back rv fun x hx => by
      obtain ⟨p, hp⟩ := each_mem hE x hx
      obtain ⟨t, e, _⟩ := hR x p hp
      exact ⟨t, e⟩
    rw [eb] at hE
    have hE2 := each_both (each_unmap hE) hrefs
    refine PySem.W.sorted_data (vs := its) (bs := ps) (enc := triE) (R := fun v p => R (backV v) p ∧ ∃ b, v = Value.ref b) pl.isList hE2 ?_ ?_ ?_ hl ?_ ?_
    · refine each_imp (fun v p hv => ?_) hE2
      obtain ⟨h1, b, rfl⟩ := hv
      obtain ⟨t, e, ht⟩ := hR _ _ h1
      cases e
      exact tri_reads I ht
    · intro d hd d' hd'
      obtain ⟨p, _, rfl⟩ := List.mem_map.mp hd
      obtain ⟨q, _, rfl⟩ := List.mem_map.mp hd'
      simp [triE, PySem.W.alike, PySem.W.alikeAll]
    · refine .inl fun d hd => ?_
      obtain ⟨p, _, rfl⟩ := List.mem_map.mp hd
      exact ⟨_, _, rfl⟩
    · intro p _
      have : (triE p).depth ≤ 1 := by simp [triE, PyData.depth, PyData.depthAll]
      omega
    · intro out hlen hout
      have hrefs2 : ∀ u ∈ out, ∃ b, u = Value.ref b := fun u hu => by
        obtain ⟨p, hp⟩ := each_mem hout u hu
        exact hp.2
      have hp : H (s.heap.objs.size + 1) = none := I.hok.fresh (Nat.le_succ _)
      refine ⟨.ref (s.heap.objs.size + 1), upd H (s.heap.objs.size + 1) (.lst (out.map backV)), ?_, rfl, k _ _ (each_map (fun a b h => h.1) hout) hp⟩
      refine I.laid (fun b u hb => sortedAll_old hb) (Nat.le_succ _) ?_
      unfold ObjOk
      obtain ⟨e, he⟩ := sortedAll_at s.heap its out.toArray
      refine ⟨by rw [List.length_map, hlen]; exact hl, out, e, vals_back hrefs2, ?_⟩
      exact he
theorem mergeK_new : ∀ (more acc : List (Key × V)), ((acc ++ more).map (·.1)).Nodup → mergeK acc more = acc ++ more
  | [], acc, _ => by rw [List.append_nil]; rfl
  | p :: r, acc, h => by
    have e : putK acc p.1 p.2 = acc ++ [p] := by
      unfold putK
      refine if_neg fun z => ?_
      obtain ⟨q, hq, e⟩ := List.any_eq_true.mp z
      rw [List.map_append, List.map_cons] at h
      exact (List.nodup_append.mp h).2.2 q.1 (List.mem_map_of_mem hq) p.1 (List.mem_cons_self) (of_decide_eq_true e)
    show mergeK (putK acc p.1 p.2) r = _
    rw [e, mergeK_new r (acc ++ [p]) (by rw [List.append_assoc]; exact h), List.append_assoc]
    rfl
section
variable {K : PySem.W.Frag} {mg : Str → Option Value} {H : Hp} {D : Addr → Prop}
theorem key_ints : ∀ {ks : List T} {kk : List Key} {ns : List Int}, KeyL ks kk → intsT ks = some ns → kk = ns.map Sum.inl
  | _, _, _, .nil, e => by cases e; rfl
  | _, _, _, .int h, e => by
    obtain ⟨ms, em, rfl⟩ := Option.map_eq_some_iff.mp e
    rw [key_ints h em]
    rfl
  | _, _, _, .str h, e => by cases e
theorem RepP.dct {ks vs : List T} {v : V} (h : RepP K mg H D (.dct ks vs) v) : ∃ a kvs, v = .ref a ∧ Rd H a (.dK kvs) ∧ KeyL ks (kvs.map (·.1)) ∧ RepL K mg H D vs (kvs.map (·.2)) := by
  rcases h with h | ⟨a, e, h⟩
  · cases h with
    | dct h1 n kl l => exact ⟨_, _, rfl, h1, kl, l⟩
  · obtain ⟨kvs, h1, kl, l⟩ := h; exact ⟨a, kvs, e, .inl h1, kl, l⟩
theorem pairs_rep : ∀ {xs : List T} {ys : List V} {ps : List (Int × T)}, RepL K mg H D xs ys → pairsT xs = some ps →
    ∃ (as : List Addr) (kvs : List (Key × V)), ys = as.map V.ref ∧ Paired (fun p kv => SqT K H p [kV kv.1, kv.2]) as kvs ∧ KeyL (ps.map fun p => .int p.1) (kvs.map (·.1)) ∧ RepL K mg H D (ps.map (·.2)) (kvs.map (·.2)) ∧ kvs.map (·.1) = ps.map fun p => Sum.inl p.1
  | _, _, _, .nil, e => by cases e; exact ⟨[], [], rfl, .nil, .nil, .nil, rfl⟩
  | _, _, _, .cons (t := t) h r, e => by
    unfold pairsT at e
    split at e
    · rename_i e0; cases e0
    · rename_i i v ts e0
      cases e0
      obtain ⟨qs, eq, rfl⟩ := Option.map_eq_some_iff.mp e
      obtain ⟨as, kvs, rfl, h1, h2, h3, h4⟩ := pairs_rep r eq
      obtain ⟨a, zs, rfl, ha, lz, _⟩ := RepP.tup (.inl h)
      cases lz with
      | cons h5 l2 =>
        cases l2 with
        | cons h6 l3 =>
          cases l3
          cases h5
          exact ⟨a :: as, (Sum.inl i, _) :: kvs, rfl, .cons ha h1, .int h2, .cons h6 h3, by rw [List.map_cons, List.map_cons, h4]⟩
    · cases e
end
theorem o_bi (b : Bi) (hb : b ≠ .sortedSet) (hc : X.calm = true) (hu : X.A.units + 64 < cLine) : CallR X (biV b) (rL X.K X.mg (biT b)) := by
  intro pins s σ H xs us Q I r h
  obtain ⟨D, ts, hD, p, out, e, k⟩ := h
  unfold biT at e
  split at e
  · cases e
    obtain ⟨v, rfl, p1⟩ := p.one
    obtain ⟨a, xs, rfl, ha, la⟩ := p1.lst
    exact call_len_seq pins s σ H _ us Q I r ⟨a, xs, rfl, .inl (.of ha), by rw [← la.length]; exact PureQ.val (.int _) k⟩
  · cases e
    obtain ⟨v, rfl, p1⟩ := p.one
    obtain ⟨a, xs, rfl, ha, la, _⟩ := p1.tup
    exact call_len_seq pins s σ H _ us Q I r ⟨a, xs, rfl, .inr ha, by rw [← la.length]; exact PureQ.val (.int _) k⟩
  · cases e
    obtain ⟨v, rfl, p1⟩ := p.one
    obtain ⟨a, rfl, ha⟩ := p1.scr
    exact call_len_seq pins s σ H _ us Q I r ⟨a, _, rfl, .inl ha, by rw [List.length_map]; exact PureQ.val (.int _) k⟩
  · split at e
    · rename_i hl
      cases e
      obtain ⟨v, rfl, p1⟩ := p.one
      have ev := p1.str
      subst ev
      exact call_len_str pins s σ H _ us Q I r ⟨_, rfl, lim_line2 hl, PureQ.val (.int _) k⟩
    · cases e
  · cases e
    obtain ⟨v, rfl, p1⟩ := p.one
    exact call_abs pins s σ H _ us Q I r ⟨_, by rw [p1.int], PureQ.val (.int _) k⟩
  · cases e
    obtain ⟨v, w, rfl, p1, q1⟩ := p.two
    exact call_max2 hc pins s σ H _ us Q I r ⟨_, _, by rw [p1.int, q1.int], PureQ.val (.int _) k⟩
  · cases e
    obtain ⟨v, w, rfl, p1, q1⟩ := p.two
    exact call_min2 hc pins s σ H _ us Q I r ⟨_, _, by rw [p1.int, q1.int], PureQ.val (.int _) k⟩
  · obtain ⟨m, em, eo⟩ := Option.map_eq_some_iff.mp e
    cases eo
    obtain ⟨ns, en, em⟩ := Option.bind_eq_some_iff.mp em
    obtain ⟨v, rfl, p1⟩ := p.one
    obtain ⟨a, ys, rfl, ha, la⟩ := p1.lst
    rw [intsT_eq en] at la
    rw [la.ints] at ha
    obtain ⟨h0, hm⟩ := maxI_is em
    exact cr_max hc pins s σ H _ us Q I r ⟨a, ns, rfl, .of ha, h0, fun x hx hy => by rw [hm x hx hy]; exact PureQ.val (.int _) k⟩
  · obtain ⟨m, em, eo⟩ := Option.map_eq_some_iff.mp e
    cases eo
    obtain ⟨ns, en, em⟩ := Option.bind_eq_some_iff.mp em
    obtain ⟨v, rfl, p1⟩ := p.one
    obtain ⟨a, ys, rfl, ha, la⟩ := p1.lst
    rw [intsT_eq en] at la
    rw [la.ints] at ha
    obtain ⟨h0, hm⟩ := minI_is em
    exact cr_min hc pins s σ H _ us Q I r ⟨a, ns, rfl, .of ha, h0, fun x hx hy => by rw [hm x hx hy]; exact PureQ.val (.int _) k⟩
  · obtain ⟨ns, en, eo⟩ := Option.map_eq_some_iff.mp e
    cases eo
    obtain ⟨v, rfl, p1⟩ := p.one
    obtain ⟨a, ys, rfl, ha, la⟩ := p1.lst
    rw [intsT_eq en] at la
    rw [la.ints] at ha
    exact cr_sum hc pins s σ H _ us Q I r ⟨a, ns, rfl, .of ha, PureQ.val (.int _) k⟩
  · obtain ⟨ns, en, eo⟩ := Option.map_eq_some_iff.mp e
    cases eo
    obtain ⟨v, rfl, p1⟩ := p.one
    obtain ⟨a, ys, rfl, ha, la⟩ := p1.lst
    rw [blsT_eq en] at la
    rw [la.bls] at ha
    exact cr_any hc pins s σ H _ us Q I r ⟨a, ns, rfl, .of ha, PureQ.val (.bl _) k⟩
  · obtain ⟨ns, en, eo⟩ := Option.map_eq_some_iff.mp e
    cases eo
    obtain ⟨v, rfl, p1⟩ := p.one
    obtain ⟨a, ys, rfl, ha, la⟩ := p1.lst
    rw [blsT_eq en] at la
    rw [la.bls] at ha
    exact cr_all hc pins s σ H _ us Q I r ⟨a, ns, rfl, .of ha, PureQ.val (.bl _) k⟩
  · unfold sortT at e
    split at e
    · rename_i ns en
      split at e
      · rename_i hl
        cases e
        obtain ⟨v, rfl, p1⟩ := p.one
        obtain ⟨a, ys, rfl, ha, la⟩ := p1.lst
        rw [intsT_eq en] at la
        rw [la.ints] at ha
        refine cr_sortedI pins s σ H _ us Q I r ⟨a, ns, rfl, .of ha, fun ns' q pm srt hq => ?_⟩
        rw [sorted_unique (pm.trans (sortI_perm ns).symm) srt (sortI_sorted ns)]
        exact PureQ.lst (RepL.of_ints _) k q hq
      · cases e
    · obtain ⟨ps, ep, eo⟩ := Option.bind_eq_some_iff.mp e
      split at eo
      · rename_i hl
        cases eo
        obtain ⟨v, rfl, p1⟩ := p.one
        obtain ⟨a, ys, rfl, ha, la⟩ := p1.lst
        rw [triT_eq ep] at la
        refine cr_tri hu pins s σ H _ us Q I r ⟨a, ys, ps, fun x p => Rep X.K X.mg H D (tri1 p) x, rfl, ha, tri_all la, fun x p h => tri_rep h, lim_line2 hl, fun zs q hz hq => ?_⟩
        exact PureQ.lst (repL_of hz) k q hq
      · cases eo
  · cases e
    obtain ⟨v, rfl, p1⟩ := p.one
    obtain ⟨a, ys, rfl, ha, la⟩ := p1.lst
    exact call_list_of pins s σ H _ us Q I r ⟨a, ys, rfl, .inl (.of ha), PureQ.lst la k⟩
  · cases e
    obtain ⟨v, rfl, p1⟩ := p.one
    obtain ⟨a, ys, rfl, ha, la, _⟩ := p1.tup
    exact call_list_of pins s σ H _ us Q I r ⟨a, ys, rfl, .inr ha, PureQ.lst la k⟩
  · cases e
    obtain ⟨v, rfl, p1⟩ := p.one
    obtain ⟨a, ys, rfl, ha, la⟩ := p1.lst
    exact call_tuple_of pins s σ H _ us Q I r ⟨a, ys, rfl, .inl ⟨.of ha, PureQ.tup hD la k⟩⟩
  · cases e
    obtain ⟨v, rfl, p1⟩ := p.one
    obtain ⟨a, ys, rfl, ha, la, rr⟩ := p1.tup
    exact call_tuple_of pins s σ H _ us Q I r ⟨a, ys, rfl, .inr ⟨ha, PureQ.val rr k⟩⟩
  · cases e
    obtain ⟨v, rfl, p1⟩ := p.one
    exact call_int1 pins s σ H _ us Q I r (.inl ⟨_, by rw [p1.int], PureQ.val (.int _) k⟩)
  · cases e
    obtain ⟨v, rfl, p1⟩ := p.one
    exact call_int1 pins s σ H _ us Q I r (.inr ⟨_, by rw [p1.bl], PureQ.val (.int _) k⟩)
  · split at e
    · rename_i hl
      cases e
      obtain ⟨v, rfl, p1⟩ := p.one
      exact call_str_int pins s σ H _ us Q I r ⟨_, by rw [p1.int], by omega, PureQ.val (.str _) k⟩
    · cases e
  · obtain ⟨ns, en, eo⟩ := Option.map_eq_some_iff.mp e
    cases eo
    obtain ⟨v, rfl, p1⟩ := p.one
    obtain ⟨a, ys, rfl, ha, la⟩ := p1.lst
    rw [intsT_eq en] at la
    rw [la.ints] at ha
    exact call_tuple_of pins s σ H _ us Q I r ⟨a, _, rfl, .inl ⟨.of ha, fun p hp => k _ _ (same_upd hp) (.ktp upd_same (hD p hp))⟩⟩
  · unfold sortD at e
    obtain ⟨ns, en, eo⟩ := Option.bind_eq_some_iff.mp e
    split at eo
    · rename_i hl
      cases eo
      obtain ⟨v, rfl, p1⟩ := p.one
      obtain ⟨a, kvs, rfl, ha, kl, _⟩ := p1.dct
      refine call_sortedDI hc pins s σ H _ us Q I r ⟨a, kvs, ns, rfl, ha, key_ints kl en, hl, fun ns' q pm srt hq => ?_⟩
      rw [sorted_unique (pm.trans (sortI_perm ns).symm) srt (sortI_sorted ns)]
      exact PureQ.lst (RepL.of_ints _) k q hq
    · cases eo
  · exact absurd rfl hb
  · unfold dictT at e
    obtain ⟨ps, ep, eo⟩ := Option.bind_eq_some_iff.mp e
    split at eo
    · rename_i hl
      cases eo
      obtain ⟨v, rfl, p1⟩ := p.one
      obtain ⟨a, ys, rfl, ha, la⟩ := p1.lst
      obtain ⟨as, kvs, rfl, h1, h2, h3, h4⟩ := pairs_rep la ep
      refine call_dictP hc pins s σ H _ us Q I r ⟨a, as, kvs, rfl, .of ha, h1, fun q hq => ?_⟩
      rw [mergeK_new kvs [] (by
        rw [List.nil_append, h4]
        have e : (ps.map fun p => (Sum.inl p.1 : Key)) = (ps.map (·.1)).map Sum.inl := by rw [List.map_map]; rfl
        rw [e]
        exact List.Pairwise.map Sum.inl (fun x y hxy z => hxy (Sum.inl.inj z)) hl)]
      exact k _ _ (same_upd hq) ⟨q, rfl, hq, kvs, upd_same, h2, h3.growX hq⟩
    · cases eo
  · split at e
    · rename_i hl
      cases e
      obtain ⟨v, w, rfl, p1, q1⟩ := p.two
      exact call_divmod pins s σ H _ us Q I r ⟨_, _, by rw [p1.int, q1.int], hl, PureQ.tup hD (.cons (.int _) (.cons (.int _) .nil)) k⟩
    · cases e
  · cases e
end
end VL

set_option maxHeartbeats 2000000
namespace VL
open PySem PySem.Spec PyProof.Rows L2

/-! ### a def's promise, by its values -/
def argE (md : List Md) (ts : List T) : En := (md.zip ts).map fun p => some (p.1.fl, p.2)
theorem argE_get {md : List Md} {ts : List T} {i : Nat} {f : Fl} {t : T} (h : (argE md ts)[i]? = some (some (f, t))) : ∃ m : Md, md[i]? = some m ∧ ts[i]? = some t ∧ f = m.fl := by
  unfold argE at h
  rw [List.getElem?_map] at h
  obtain ⟨p, hp, e⟩ := Option.map_eq_some_iff.mp h
  obtain ⟨h1, h2⟩ := List.getElem?_zip_eq_some.mp hp
  cases e
  exact ⟨p.1, h1, h2, rfl⟩
theorem argE_of {md : List Md} {ts : List T} {i : Nat} {m : Md} {t : T} (h1 : md[i]? = some m) (h2 : ts[i]? = some t) : (argE md ts)[i]? = some (some (m.fl, t)) := by
  unfold argE
  rw [List.getElem?_map, List.getElem?_zip_eq_some.mpr (show md[i]? = some (m, t).1 ∧ ts[i]? = some (m, t).2 from ⟨h1, h2⟩)]
  rfl
theorem argE_own {md : List Md} {ts : List T} {σ : L2.St} {a : Addr} : ¬ ownA (argE md ts) σ a := fun ⟨i, f, t, e, hf, _⟩ => by
  obtain ⟨m, _, _, rfl⟩ := argE_get e
  cases m <;> rcases hf with z | z <;> cases z
section
variable (K : PySem.W.Frag) (mg : Str → Option Value)
def FnSp (F : Fn) : Sp := fun vs H Q E => ∃ (md : List Md) (ts : List T) (D0 : Addr → Prop), md.length = F.pk.length ∧ ts.length = F.pk.length ∧ vs.length = F.pk.length ∧ SR K mg D0 H (argE md ts) (vs.map some) ∧
  (match F.run md ts with
    | .ok o ts' => ts'.length = ts.length ∧ ∀ v H', Step (argE md ts) (vs.map some) H (argE md ts') (vs.map some) H' → SR K mg D0 H' (argE md ts') (vs.map some) → OutR K mg D0 o v H (argE md ts') (vs.map some) H' → Q v H'
    | .exc x ts' => ts'.length = ts.length ∧ ∀ cls d H', Step (argE md ts) (vs.map some) H (argE md ts') (vs.map some) H' → SR K mg D0 H' (argE md ts') (vs.map some) → ExcRep K mg H' (Dof D0 (argE md ts') (vs.map some)) x cls d → E cls d H'
    | .stuck => False)
end

/-! ### arguments -/
theorem argvs_is {env : En} : ∀ {ps : List Pk} {os : List Opnd} {a : Argv}, argvs env ps os = some a →
    a.md.length = ps.length ∧ a.ts.length = ps.length ∧ os.length = ps.length ∧
    (∀ (j : Nat) (m : Md), a.md[j]? = some m → ∃ op t, os[j]? = some op ∧ a.ts[j]? = some t ∧ (match m with
      | .sh => op = .val t ∨ ∃ i, op = .slot i ∧ env[i]? = some (some (.sh, t))
      | .bor => ∃ i f, op = .slot i ∧ env[i]? = some (some (f, t)) ∧ f ≠ .sh ∧ i ∈ a.lent
      | .io => ∃ i f, op = .slot i ∧ env[i]? = some (some (f, t)) ∧ (f = .own ∨ f = .io) ∧ i ∈ a.lent)) ∧
    (∀ (j k i : Nat) (m m' : Md), a.md[j]? = some m → a.md[k]? = some m' → m ≠ .sh → m' ≠ .sh → os[j]? = some (.slot i) → os[k]? = some (.slot i) → j = k)
  | [], [], a, h => by
    cases h
    exact ⟨rfl, rfl, rfl, fun j m e => by simp at e, fun j k i m m' e => by simp at e⟩
  | .io :: ps, .slot i :: os, a, h => by
    unfold argvs at h
    split at h
    · rename_i f t b ef eb
      split at h
      · rename_i hc
        cases h
        obtain ⟨l1, l2, l3, pt, inj⟩ := argvs_is eb
        have inl : ∀ (j : Nat) (m : Md), b.md[j]? = some m → m ≠ .sh → os[j]? ≠ some (.slot i) := fun j m e hm hs => by
          obtain ⟨op, t', eo, _, q⟩ := pt j m e
          rw [hs] at eo; cases eo
          cases m with
          | sh => exact hm rfl
          | bor => obtain ⟨i', f', e1, _, _, hl⟩ := q; cases e1; exact hc.2 hl
          | io => obtain ⟨i', f', e1, _, _, hl⟩ := q; cases e1; exact hc.2 hl
        refine ⟨by simp [l1], by simp [l2], by simp [l3], fun j m e => ?_, fun j k i' m m' e1 e2 h1 h2 s1 s2 => ?_⟩
        · cases j with
          | zero => simp at e; subst e; exact ⟨_, t, rfl, rfl, i, f, rfl, ef, hc.1, List.mem_cons_self⟩
          | succ j =>
            obtain ⟨op, t', eo, et, q⟩ := pt j m (by simpa using e)
            refine ⟨op, t', by simpa using eo, by simpa using et, ?_⟩
            cases m with
            | sh => exact q
            | bor => obtain ⟨i', f', e1, e2, e3, hl⟩ := q; exact ⟨i', f', e1, e2, e3, List.mem_cons_of_mem _ hl⟩
            | io => obtain ⟨i', f', e1, e2, e3, hl⟩ := q; exact ⟨i', f', e1, e2, e3, List.mem_cons_of_mem _ hl⟩
        · cases j with
          | zero =>
            cases k with
            | zero => rfl
            | succ k =>
              simp at s1; subst s1
              exact absurd (by simpa using s2) (inl k m' (by simpa using e2) h2)
          | succ j =>
            cases k with
            | zero =>
              simp at s2; subst s2
              exact absurd (by simpa using s1) (inl j m (by simpa using e1) h1)
            | succ k => rw [inj j k i' m m' (by simpa using e1) (by simpa using e2) h1 h2 (by simpa using s1) (by simpa using s2)]
      · cases h
    · cases h
  | .rd :: ps, .slot i :: os, a, h => by
    unfold argvs at h
    split at h
    · rename_i f t b ef eb
      split at h
      · rename_i hc
        cases h
        obtain ⟨l1, l2, l3, pt, inj⟩ := argvs_is eb
        refine ⟨by simp [l1], by simp [l2], by simp [l3], fun j m e => ?_, fun j k i' m m' e1 e2 h1 h2 s1 s2 => ?_⟩
        · cases j with
          | zero => simp at e; subst e; exact ⟨_, t, rfl, rfl, .inr ⟨i, rfl, by rw [ef, hc]⟩⟩
          | succ j => simpa using pt j m (by simpa using e)
        · cases j with
          | zero => simp at e1; exact absurd e1.symm h1
          | succ j =>
            cases k with
            | zero => simp at e2; exact absurd e2.symm h2
            | succ k => rw [inj j k i' m m' (by simpa using e1) (by simpa using e2) h1 h2 (by simpa using s1) (by simpa using s2)]
      · rename_i hc
        split at h
        · rename_i hl
          cases h
          obtain ⟨l1, l2, l3, pt, inj⟩ := argvs_is eb
          have inl : ∀ (j : Nat) (m : Md), b.md[j]? = some m → m ≠ .sh → os[j]? ≠ some (.slot i) := fun j m e hm hs => by
            obtain ⟨op, t', eo, _, q⟩ := pt j m e
            rw [hs] at eo; cases eo
            cases m with
            | sh => exact hm rfl
            | bor => obtain ⟨i', f', e1, _, _, h'⟩ := q; cases e1; exact hl h'
            | io => obtain ⟨i', f', e1, _, _, h'⟩ := q; cases e1; exact hl h'
          refine ⟨by simp [l1], by simp [l2], by simp [l3], fun j m e => ?_, fun j k i' m m' e1 e2 h1 h2 s1 s2 => ?_⟩
          · cases j with
            | zero => simp at e; subst e; exact ⟨_, t, rfl, rfl, i, f, rfl, ef, hc, List.mem_cons_self⟩
            | succ j =>
              obtain ⟨op, t', eo, et, q⟩ := pt j m (by simpa using e)
              refine ⟨op, t', by simpa using eo, by simpa using et, ?_⟩
              cases m with
              | sh => exact q
              | bor => obtain ⟨i', f', e1, e2, e3, hl⟩ := q; exact ⟨i', f', e1, e2, e3, List.mem_cons_of_mem _ hl⟩
              | io => obtain ⟨i', f', e1, e2, e3, hl⟩ := q; exact ⟨i', f', e1, e2, e3, List.mem_cons_of_mem _ hl⟩
          · cases j with
            | zero =>
              cases k with
              | zero => rfl
              | succ k =>
                simp at s1; subst s1
                exact absurd (by simpa using s2) (inl k m' (by simpa using e2) h2)
            | succ j =>
              cases k with
              | zero =>
                simp at s2; subst s2
                exact absurd (by simpa using s1) (inl j m (by simpa using e1) h1)
              | succ k => rw [inj j k i' m m' (by simpa using e1) (by simpa using e2) h1 h2 (by simpa using s1) (by simpa using s2)]
        · cases h
    · cases h
  | .rd :: ps, .val t :: os, a, h => by
    unfold argvs at h
    split at h
    · rename_i b eb
      cases h
      obtain ⟨l1, l2, l3, pt, inj⟩ := argvs_is eb
      refine ⟨by simp [l1], by simp [l2], by simp [l3], fun j m e => ?_, fun j k i' m m' e1 e2 h1 h2 s1 s2 => ?_⟩
      · cases j with
        | zero => simp at e; subst e; exact ⟨_, t, rfl, rfl, .inl rfl⟩
        | succ j => simpa using pt j m (by simpa using e)
      · cases j with
        | zero => simp at e1; exact absurd e1.symm h1
        | succ j =>
          cases k with
          | zero => simp at e2; exact absurd e2.symm h2
          | succ k => rw [inj j k i' m m' (by simpa using e1) (by simpa using e2) h1 h2 (by simpa using s1) (by simpa using s2)]
    · cases h
  | .es :: ps, .val t :: os, a, h => by
    unfold argvs at h
    split at h
    · rename_i b eb
      cases h
      obtain ⟨l1, l2, l3, pt, inj⟩ := argvs_is eb
      refine ⟨by simp [l1], by simp [l2], by simp [l3], fun j m e => ?_, fun j k i' m m' e1 e2 h1 h2 s1 s2 => ?_⟩
      · cases j with
        | zero => simp at e; subst e; exact ⟨_, t, rfl, rfl, .inl rfl⟩
        | succ j => simpa using pt j m (by simpa using e)
      · cases j with
        | zero => simp at e1; exact absurd e1.symm h1
        | succ j =>
          cases k with
          | zero => simp at e2; exact absurd e2.symm h2
          | succ k => rw [inj j k i' m m' (by simpa using e1) (by simpa using e2) h1 h2 (by simpa using s1) (by simpa using s2)]
    · cases h
  | .io :: ps, .val t :: os, a, h => by simp [argvs] at h
  | .es :: ps, .slot t :: os, a, h => by simp [argvs] at h
  | [], _ :: _, a, h => by simp [argvs] at h
  | _ :: _, [], a, h => by simp [argvs] at h
def IoAt (md : List Md) (os : List Opnd) (j i : Nat) : Prop := md[j]? = some .io ∧ os[j]? = some (.slot i)
theorem setT_is {env env' : En} {i : Nat} {t : T} (h : setT env i t = some env') : ∃ f u, env[i]? = some (some (f, u)) ∧ env' = env.set i (some (f, t)) := by
  unfold setT at h
  split at h
  · rename_i f u e; cases h; exact ⟨f, u, e, rfl⟩
  · cases h
theorem writeB_is : ∀ {md : List Md} {os : List Opnd} {ts : List T} {env env2 : En}, writeB env md os ts = some env2 → (∀ j k i, IoAt md os j i → IoAt md os k i → j = k) →
    ts.length = md.length ∧ env2.length = env.length ∧ (∀ i, (∀ j, ¬ IoAt md os j i) → env2[i]? = env[i]?) ∧
    (∀ (j i : Nat) (f : Fl) (t : T), IoAt md os j i → env[i]? = some (some (f, t)) → ∃ t', ts[j]? = some t' ∧ env2[i]? = some (some (f, t')))
  | [], [], [], env, env2, h, _ => by
    cases h
    exact ⟨rfl, rfl, fun _ _ => rfl, fun j i f t hj => by simp [IoAt] at hj⟩
  | .io :: ms, .slot i :: os, t :: ts, env, env2, h, nd => by
    unfold writeB at h
    obtain ⟨e1, h1, h2⟩ := Option.bind_eq_some_iff.mp h
    obtain ⟨f, u, ei, rfl⟩ := setT_is h1
    have nd' : ∀ j k i, IoAt ms os j i → IoAt ms os k i → j = k := fun j k i' a b => by
      have := nd (j + 1) (k + 1) i' ⟨by simpa using a.1, by simpa using a.2⟩ ⟨by simpa using b.1, by simpa using b.2⟩
      omega
    obtain ⟨l0, l1, q1, q2⟩ := writeB_is h2 nd'
    have hi : ∀ j, ¬ IoAt ms os j i := fun j a => by
      have := nd 0 (j + 1) i ⟨rfl, rfl⟩ ⟨by simpa using a.1, by simpa using a.2⟩
      omega
    refine ⟨by simp [l0], by simpa using l1, fun k hk => ?_, fun j k g w hj hg => ?_⟩
    · have hne : k ≠ i := fun z => hk 0 (z ▸ ⟨rfl, rfl⟩)
      rw [q1 k fun j a => hk (j + 1) ⟨by simpa using a.1, by simpa using a.2⟩, List.getElem?_set_ne (Ne.symm hne)]
    · cases j with
      | zero =>
        have : k = i := by have := hj.2; simp at this; exact this.symm
        subst this
        rw [ei] at hg; cases hg
        exact ⟨t, rfl, by rw [q1 k hi, List.getElem?_set_self (get_lt ei)]⟩
      | succ j =>
        have hj' : IoAt ms os j k := ⟨by simpa using hj.1, by simpa using hj.2⟩
        have hne : k ≠ i := fun z => hi j (z ▸ hj')
        obtain ⟨t', e1, e2⟩ := q2 j k g w hj' (by rw [List.getElem?_set_ne (Ne.symm hne)]; exact hg)
        exact ⟨t', by simpa using e1, e2⟩
  | .io :: ms, .val u :: os, t :: ts, env, env2, h, nd => by
    have h : writeB env ms os ts = some env2 := by simpa [writeB] using h
    have nd' : ∀ j k i, IoAt ms os j i → IoAt ms os k i → j = k := fun j k i' a b => by
      have := nd (j + 1) (k + 1) i' ⟨by simpa using a.1, by simpa using a.2⟩ ⟨by simpa using b.1, by simpa using b.2⟩
      omega
    obtain ⟨l0, l1, q1, q2⟩ := writeB_is h nd'
    refine ⟨by simp [l0], l1, fun k hk => q1 k fun j a => hk (j + 1) ⟨by simpa using a.1, by simpa using a.2⟩, fun j k g w hj hg => ?_⟩
    cases j with
    | zero => have := hj.2; simp at this
    | succ j => simpa using q2 j k g w ⟨by simpa using hj.1, by simpa using hj.2⟩ hg
  | .sh :: ms, o :: os, t :: ts, env, env2, h, nd => by
    have h : writeB env ms os ts = some env2 := by simpa [writeB] using h
    have nd' : ∀ j k i, IoAt ms os j i → IoAt ms os k i → j = k := fun j k i' a b => by
      have := nd (j + 1) (k + 1) i' ⟨by simpa using a.1, by simpa using a.2⟩ ⟨by simpa using b.1, by simpa using b.2⟩
      omega
    obtain ⟨l0, l1, q1, q2⟩ := writeB_is h nd'
    refine ⟨by simp [l0], l1, fun k hk => q1 k fun j a => hk (j + 1) ⟨by simpa using a.1, by simpa using a.2⟩, fun j k g w hj hg => ?_⟩
    cases j with
    | zero => have := hj.1; simp at this
    | succ j => simpa using q2 j k g w ⟨by simpa using hj.1, by simpa using hj.2⟩ hg
  | .bor :: ms, o :: os, t :: ts, env, env2, h, nd => by
    have h : writeB env ms os ts = some env2 := by simpa [writeB] using h
    have nd' : ∀ j k i, IoAt ms os j i → IoAt ms os k i → j = k := fun j k i' a b => by
      have := nd (j + 1) (k + 1) i' ⟨by simpa using a.1, by simpa using a.2⟩ ⟨by simpa using b.1, by simpa using b.2⟩
      omega
    obtain ⟨l0, l1, q1, q2⟩ := writeB_is h nd'
    refine ⟨by simp [l0], l1, fun k hk => q1 k fun j a => hk (j + 1) ⟨by simpa using a.1, by simpa using a.2⟩, fun j k g w hj hg => ?_⟩
    cases j with
    | zero => have := hj.1; simp at this
    | succ j => simpa using q2 j k g w ⟨by simpa using hj.1, by simpa using hj.2⟩ hg
  | [], _ :: _, _, _, _, h, _ => by simp [writeB] at h
  | [], [], _ :: _, _, _, h, _ => by simp [writeB] at h
  | .io :: _, [], _, _, _, h, _ => by simp [writeB] at h
  | .sh :: _, [], _, _, _, h, _ => by simp [writeB] at h
  | .bor :: _, [], _, _, _, h, _ => by simp [writeB] at h
  | .io :: _, .slot _ :: _, [], _, _, h, _ => by simp [writeB] at h
  | .io :: _, .val _ :: _, [], _, _, h, _ => by simp [writeB] at h
  | .sh :: _, _ :: _, [], _, _, h, _ => by simp [writeB] at h
  | .bor :: _, _ :: _, [], _, _, h, _ => by simp [writeB] at h
theorem OpdL.at {K : PySem.W.Frag} {mg : Str → Option Value} {H : Hp} {D : Addr → Prop} {σ : L2.St} {os : List Opnd} {vs : List V} (h : OpdL K mg H D σ os vs) : os.length = vs.length ∧ ∀ (j : Nat) (o : Opnd), os[j]? = some o → ∃ v, vs[j]? = some v ∧ (match o with
    | .val t => Rep K mg H D t v
    | .slot i => σ[i]? = some (some v)) := by
  induction h with
  | nil => exact ⟨rfl, fun j o e => by simp at e⟩
  | val r _ ih =>
    refine ⟨by simp [ih.1], fun j o e => ?_⟩
    cases j with
    | zero => simp at e; subst e; exact ⟨_, rfl, r⟩
    | succ j => simpa using ih.2 j o (by simpa using e)
  | slot r _ ih =>
    refine ⟨by simp [ih.1], fun j o e => ?_⟩
    cases j with
    | zero => simp at e; subst e; exact ⟨_, rfl, r⟩
    | succ j => simpa using ih.2 j o (by simpa using e)
section
variable {K : PySem.W.Frag} {mg : Str → Option Value} {H H1 H' : Hp} {D0 : Addr → Prop} {env env1 env2 : En} {σ : L2.St} {W : WX}
/-- the callee's start -/
theorem call_start {ps : List Pk} {os : List Opnd} {vs : List V} {a : Argv} (R : SR K mg D0 H env σ) (ho : OpdL K mg H (Dof D0 env σ) σ os vs) (ha : argvs env ps os = some a) : SR K mg (Dof D0 env σ) H (argE a.md a.ts) (vs.map some) := by
  obtain ⟨l1, l2, l3, pt, inj⟩ := argvs_is ha
  obtain ⟨l4, pv⟩ := ho.at
  have vget : ∀ {j : Nat} {v : V}, vs[j]? = some v → (vs.map some)[j]? = some (some v) := fun {j v} e => by rw [List.getElem?_map, e]; rfl
  have look : ∀ {i : Nat} {f : Fl} {t : T}, (argE a.md a.ts)[i]? = some (some (f, t)) → f ≠ .sh → ∃ (k : Nat) (g : Fl) (ad : Addr) (m : Md), a.md[i]? = some m ∧ m ≠ .sh ∧ os[i]? = some (.slot k) ∧ env[k]? = some (some (g, t)) ∧ g ≠ .sh ∧ σ[k]? = some (some (.ref ad)) ∧ (vs.map some)[i]? = some (some (.ref ad)) ∧ (f = .bor ∨ f = .io) := fun {i f t} e hf => by
    obtain ⟨m, em, et, rfl⟩ := argE_get e
    obtain ⟨op, t', eo, et', q⟩ := pt i m em
    rw [et] at et'; cases et'
    obtain ⟨v, ev, qv⟩ := pv i op eo
    cases m with
    | sh => exact absurd rfl hf
    | bor =>
      obtain ⟨k, g, rfl, ek, hg, _⟩ := q
      obtain ⟨ad, sa, _⟩ := R.top k g t ek hg
      have qv : σ[k]? = some (some v) := qv
      rw [sa] at qv; cases qv
      exact ⟨k, g, ad, _, em, by decide, eo, ek, hg, sa, vget ev, .inl rfl⟩
    | io =>
      obtain ⟨k, g, rfl, ek, hg, _⟩ := q
      have hg' : g ≠ .sh := by rcases hg with rfl | rfl <;> decide
      obtain ⟨ad, sa, _⟩ := R.top k g t ek hg'
      have qv : σ[k]? = some (some v) := qv
      rw [sa] at qv; cases qv
      exact ⟨k, g, ad, _, em, by decide, eo, ek, hg', sa, vget ev, .inr rfl⟩
  have noOwn : ∀ b, Dof (Dof D0 env σ) (argE a.md a.ts) (vs.map some) b → Dof D0 env σ b := fun b h => h.elim id fun z => absurd z argE_own
  refine ⟨by simp [argE, l1, l2, ← l4, l3], fun i t e => ?_, fun i f t e hf => ?_, fun i j f g t u b e1 e2 h1 h2 s1 s2 => ?_, fun b h => R.dofDom h⟩
  · obtain ⟨m, em, et, hm⟩ := argE_get e
    obtain ⟨op, t', eo, et', q⟩ := pt i m em
    rw [et] at et'; cases et'
    obtain ⟨v, ev, qv⟩ := pv i op eo
    refine ⟨v, vget ev, ?_⟩
    have : Rep K mg H (Dof D0 env σ) t v := by
      cases m with
      | sh =>
        rcases q with rfl | ⟨k, rfl, ek⟩
        · exact qv
        · obtain ⟨w, sw, r⟩ := R.sh k t ek
          have qv : σ[k]? = some (some v) := qv
          rw [sw] at qv; cases qv
          exact r
      | bor => cases hm
      | io => cases hm
    exact this.mono (fun _ _ h _ => h) fun b h => .inl (noOwn b h)
  · obtain ⟨k, g, ad, m, em, hm, eo, ek, hg, sa, sv, hfl⟩ := look e hf
    obtain ⟨b, sb, rt, _⟩ := R.top k g t ek hg
    rw [sa] at sb; cases sb
    refine ⟨ad, sv, rt.mono (fun _ _ h _ => h) (fun b h => .inl (noOwn b h)) rfl, fun z => ?_, fun _ => ?_⟩
    · rcases hfl with rfl | rfl <;> rcases z with z | z <;> cases z
    · obtain ⟨b, sb, _, c1, c2⟩ := R.top k g t ek hg
      rw [sa] at sb; cases sb
      by_cases ho : g = .own ∨ g = .lck
      · exact .inr ⟨k, g, t, ek, ho, sa⟩
      · exact .inl (c2 (by cases g <;> simp at hg ho ⊢))
  · obtain ⟨k, g1, ad, m, em, hm, eo, ek, hg, sa, sv, _⟩ := look e1 h1
    obtain ⟨k', g2, ad', m', em', hm', eo', ek', hg', sa', sv', _⟩ := look e2 h2
    rw [sv] at s1; cases s1
    rw [sv'] at s2; cases s2
    have hk : k = k' := R.inj k k' g1 g2 t u _ ek ek' hg hg' sa sa'
    subst hk
    exact inj i j k m m' em em' hm hm' eo eo'
/-- back with the caller -/
theorem call_back {ps : List Pk} {os : List Opnd} {vs : List V} {a : Argv} {ts' : List T} {D1 : Addr → Prop} (R : SR K mg D0 H env σ) (ho : OpdL K mg H (Dof D0 env σ) σ os vs) (ha : argvs env ps os = some a) (hw : writeB env a.md os ts' = some env2)
    (S : Step (argE a.md a.ts) (vs.map some) H (argE a.md ts') (vs.map some) H') (hD1 : ∀ b, D1 b → D0 b ∨ H b = none) (hD0 : ∀ b, D0 b → D1 b) (R' : SR K mg (fun b => D1 b ∨ ownA env σ b) H' (argE a.md ts') (vs.map some)) :
    Step env σ H env2 σ H' ∧ SR K mg D1 H' env2 σ ∧ ∀ b, ownA env2 σ b ↔ ownA env σ b := by
  obtain ⟨l1, l2, l3, pt, inj⟩ := argvs_is ha
  obtain ⟨l4, pv⟩ := ho.at
  have ndIo : ∀ j k i, IoAt a.md os j i → IoAt a.md os k i → j = k := fun j k i h1 h2 => inj j k i .io .io h1.1 h2.1 (by decide) (by decide) h1.2 h2.2
  obtain ⟨l0, l5, w1, w2⟩ := writeB_is hw ndIo
  have vget : ∀ {j : Nat} {v : V}, vs[j]? = some v → (vs.map some)[j]? = some (some v) := fun {j v} e => by rw [List.getElem?_map, e]; rfl
  -- the address at an io place
  have ioAd : ∀ {j i : Nat}, IoAt a.md os j i → ∃ (f : Fl) (t : T) (ad : Addr), env[i]? = some (some (f, t)) ∧ (f = .own ∨ f = .io) ∧ σ[i]? = some (some (.ref ad)) ∧ (vs.map some)[j]? = some (some (.ref ad)) ∧ a.ts[j]? = some t := fun {j i} h => by
    obtain ⟨op, t, eo, et, i', f, e1, ei, hf, _⟩ := pt j .io h.1
    rw [h.2] at eo; cases eo; cases e1
    obtain ⟨ad, sa, _⟩ := R.top i f t ei (by rcases hf with rfl | rfl <;> decide)
    obtain ⟨v, ev, qv⟩ := pv j _ h.2
    have qv : σ[i]? = some (some v) := qv
    rw [sa] at qv; cases qv
    exact ⟨f, t, ad, ei, hf, sa, vget ev, et⟩
  have flags : ∀ {i : Nat} {f : Fl} {t : T}, env2[i]? = some (some (f, t)) → ∃ t0, env[i]? = some (some (f, t0)) ∧ ((∀ j, ¬ IoAt a.md os j i) → t0 = t) ∧ ∀ j, IoAt a.md os j i → ts'[j]? = some t := fun {i f t} e => by
    by_cases h : ∃ j, IoAt a.md os j i
    · obtain ⟨j, hj⟩ := h
      obtain ⟨f0, t0, ad, ei, _⟩ := ioAd hj
      obtain ⟨t', e1, e2⟩ := w2 j i f0 t0 hj ei
      rw [e] at e2; cases e2
      refine ⟨t0, ei, fun z => absurd hj (z j), fun k hk => ?_⟩
      rw [ndIo k j i hk hj]; exact e1
    · have h : ∀ j, ¬ IoAt a.md os j i := fun j hj => h ⟨j, hj⟩
      exact ⟨t, by rw [← w1 i h]; exact e, fun _ => rfl, fun j hj => absurd hj (h j)⟩
  have flags' : ∀ {i : Nat} {f : Fl} {t : T}, env[i]? = some (some (f, t)) → ∃ t', env2[i]? = some (some (f, t')) := fun {i f t} e => by
    by_cases h : ∃ j, IoAt a.md os j i
    · obtain ⟨j, hj⟩ := h
      obtain ⟨t', _, e2⟩ := w2 j i f t hj e
      exact ⟨t', e2⟩
    · exact ⟨t, by rw [w1 i fun j hj => h ⟨j, hj⟩]; exact e⟩
  have ow : ∀ b, ownA env2 σ b ↔ ownA env σ b := fun b => by
    constructor
    · rintro ⟨i, f, t, e, hf, s⟩
      obtain ⟨t0, e0, _⟩ := flags e
      exact ⟨i, f, t0, e0, hf, s⟩
    · rintro ⟨i, f, t, e, hf, s⟩
      obtain ⟨t', e'⟩ := flags' e
      exact ⟨i, f, t', e', hf, s⟩
  have muc : ∀ b, mutA (argE a.md a.ts) (vs.map some) b → ∃ j i, IoAt a.md os j i ∧ σ[i]? = some (some (.ref b)) := fun b ⟨j, f, t, e, hf, s⟩ => by
    obtain ⟨m, em, et, rfl⟩ := argE_get e
    cases m with
    | sh => rcases hf with z | z <;> cases z
    | bor => rcases hf with z | z <;> cases z
    | io =>
      obtain ⟨op, t', eo, et', i, g, rfl, ei, hg, _⟩ := pt j .io em
      obtain ⟨f0, t0, ad, _, _, sa, sv, _⟩ := ioAd ⟨em, eo⟩
      rw [s] at sv; cases sv
      exact ⟨j, i, ⟨em, eo⟩, sa⟩
  have keep : Keep H H' (mutA env σ) := fun b o h n => S.keep b o h fun z => by
    obtain ⟨j, i, hj, sb⟩ := muc b z
    obtain ⟨f, t, ad, ei, hf, sa, _⟩ := ioAd hj
    rw [sb] at sa; cases sa
    exact n ⟨i, f, t, ei, hf, sb⟩
  have St : Step env σ H env2 σ H' := by
    refine ⟨keep, fun b h => .inl ((ow b).mp h), fun b h => .inl ?_, fun i f t e _ => ⟨rfl, flags' e⟩, S.dom, fun b h => ?_⟩
    all_goals
      obtain ⟨i, f, t, e, hf, s⟩ := h
      obtain ⟨t0, e0, _⟩ := flags e
      exact ⟨i, f, t0, e0, hf, s⟩
  refine ⟨St, ?_, ow⟩
  have hD : ∀ b, Dof D1 env2 σ b → Dof D0 env σ b ∨ H b = none := fun b h => by
    rcases h with h | h
    · rcases hD1 b h with z | z
      · exact .inl (.inl z)
      · exact .inr z
    · exact .inl (.inr ((ow b).mp h))
  refine R.to (by rw [l5]; exact R.len) (St.k R) hD (fun i t e => ?_) (fun i f t e hf => ?_) (fun i f t b e hf s => ?_) (fun i j f g t u b e1 e2 h1 h2 s1 s2 => ?_) (fun b h => R'.dom b (.inl h))
  · obtain ⟨t0, e0, q1, _⟩ := flags e
    by_cases h : ∃ j, IoAt a.md os j i
    · obtain ⟨j, hj⟩ := h
      obtain ⟨f, t1, ad, ei, hf, _⟩ := ioAd hj
      rw [e0] at ei; cases ei
      rcases hf with z | z <;> cases z
    · rw [q1 fun j hj => h ⟨j, hj⟩] at e0
      exact .inl ⟨e0, rfl⟩
  · obtain ⟨t0, e0, q1, q2⟩ := flags e
    by_cases h : ∃ j, IoAt a.md os j i
    · obtain ⟨j, hj⟩ := h
      obtain ⟨f1, t1, ad, ei, _, sa, sv, _⟩ := ioAd hj
      obtain ⟨b, sb, rt, _⟩ := R'.top j .io t (argE_of hj.1 (q2 j hj)) (by decide)
      rw [sv] at sb; cases sb
      refine .inr ⟨ad, sa, rt.mono (fun _ _ h _ => h) (fun b h => .inl ?_) rfl⟩
      rcases h with h | h
      · exact .inl (.inl h)
      · exact .inl (.inr ((ow b).mp h))
    · have hn : ∀ j, ¬ IoAt a.md os j i := fun j hj => h ⟨j, hj⟩
      rw [q1 hn] at e0
      refine .inl ⟨f, e0, hf, rfl, fun b sb => ?_⟩
      obtain ⟨c, sc, rt, _⟩ := R.top i f t e0 hf
      rw [sb] at sc; cases sc
      obtain ⟨o, hob⟩ := rt.there
      rw [hob]
      refine S.keep b o hob fun z => ?_
      obtain ⟨j, k, hj, sk⟩ := muc b z
      obtain ⟨f1, t1, ad, ek, hf1, _⟩ := ioAd hj
      have : i = k := R.inj i k f f1 t t1 b e0 ek hf (by rcases hf1 with rfl | rfl <;> decide) sb sk
      subst this
      exact hn j hj
  · obtain ⟨t0, e0, _⟩ := flags e
    obtain ⟨c, sc, rt, c1, c2⟩ := R.top i f t0 e0 hf
    rw [s] at sc; cases sc
    refine ⟨fun z hz => ?_, fun z => hD0 _ (c2 z)⟩
    rcases hD1 _ hz with q | q
    · exact c1 z q
    · obtain ⟨o, hob⟩ := rt.there
      rw [q] at hob; cases hob
  · obtain ⟨t0, e0, _⟩ := flags e1
    obtain ⟨u0, e0', _⟩ := flags e2
    exact R.inj i j f g t0 u0 b e0 e0' h1 h2 s1 s2
/-- a call by its def's promise -/
theorem callF_pl {F : Fn} {m : M (List Opnd)} {Q : VK} (R : SR K mg D0 H env σ) (h : PR K mg D0 W (OutR K mg D0) env σ H Q (callF F m env)) :
    PL K mg D0 W (OpdsR K mg D0) env σ H (fun vs H1 => FnSp K mg F vs H1 Q fun cls d H' => W cls d σ H') (m env) := by
  cases e : m env with
  | stuck => simp only [callF, e, bind_stuck] at h; exact h
  | exc x env1 => simp only [callF, e, bind_exc] at h; exact h
  | ok os env1 =>
    simp only [callF, e, bind_ok] at h
    intro vs H1 S1 R1 ho
    cases ea : argvs env1 F.pk os with
    | none => simp only [ea] at h; exact h.elim
    | some a =>
      simp only [ea] at h
      obtain ⟨l1, l2, l3, _⟩ := argvs_is ea
      have ndIo : ∀ j k i, IoAt a.md os j i → IoAt a.md os k i → j = k := fun j k i h1 h2 => (argvs_is ea).2.2.2.2 j k i .io .io h1.1 h2.1 (by decide) (by decide) h1.2 h2.2
      refine ⟨a.md, a.ts, Dof D0 env1 σ, l1, l2, by rw [← l3]; exact (OpdL.at ho).1.symm, call_start R1 ho ea, ?_⟩
      cases er : F.run a.md a.ts with
      | stuck => simp only [er] at h; exact h
      | ok o ts' =>
        simp only [er] at h ⊢
        cases ew : writeB env1 a.md os ts' with
        | none => simp only [ew] at h; exact h.elim
        | some env2 =>
          simp only [ew] at h
          have lt := (writeB_is ew ndIo).1
          refine ⟨by rw [lt, l1, l2], fun v H' S R' q => ?_⟩
          have e0 : (fun b => D0 b ∨ ownA env1 σ b) = Dof D0 env1 σ := rfl
          obtain ⟨S2, R2, ow⟩ := call_back (D1 := D0) R1 ho ea ew S (fun b h => .inl h) (fun b h => h) R'
          refine h v H' (S1.trans S2) R2 ?_
          cases o with
          | val t =>
            refine Rep.mono (D := Dof (Dof D0 env1 σ) (argE a.md ts') (vs.map some)) (fun _ _ h _ => h) (fun b h => .inl (.inl ?_)) q
            exact h.imp id (ow b).mp
          | own t =>
            obtain ⟨ad, ev, hn, Rx, rt⟩ := q
            have Rx' : SR K mg (fun b => orA D0 ad b ∨ ownA env1 σ b) H' (argE a.md ts') (vs.map some) := by
              have : (fun b => orA D0 ad b ∨ ownA env1 σ b) = orA (Dof D0 env1 σ) ad := by
                funext b; unfold orA Dof; rw [eq_iff_iff]
                constructor
                · rintro ((h | h) | h)
                  · exact .inl (.inl h)
                  · exact .inr h
                  · exact .inl (.inr h)
                · rintro ((h | h) | h)
                  · exact .inl (.inl h)
                  · exact .inr h
                  · exact .inl (.inr h)
              rw [this]; exact Rx
            obtain ⟨_, R3, ow3⟩ := call_back (D1 := orA D0 ad) R1 ho ea ew S (fun b h => h.imp id fun z => by rw [z]; exact hn) (fun b h => .inl h) Rx'
            refine ⟨ad, ev, none_of S1.dom hn, R3, ?_⟩
            refine rt.mono (fun _ _ h _ => h) (fun b h => .inl (.inl ?_)) rfl
            rcases h with (h | h) | h
            · exact .inl (.inl h)
            · exact .inr h
            · exact .inl (.inr ((ow b).mp h))
      | exc x ts' =>
        simp only [er] at h ⊢
        cases ew : writeB env1 a.md os ts' with
        | none => simp only [ew] at h; exact h.elim
        | some env2 =>
          simp only [ew] at h
          have lt := (writeB_is ew ndIo).1
          refine ⟨by rw [lt, l1, l2], fun cls d H' S R' q => ?_⟩
          obtain ⟨S2, R2, ow⟩ := call_back (D1 := D0) R1 ho ea ew S (fun b h => .inl h) (fun b h => h) R'
          refine h cls d H' (S1.trans S2) R2 ?_
          obtain ⟨c, fn, fv, Ca, q1, q2, q3, q4⟩ := q
          refine ⟨c, fn, fv, Ca, q1, q2, q3, q4.imp id fun ⟨dd, ws, p1, p2, p3, p4, p5⟩ => ⟨dd, ws, p1, p2, fun z => p3 (.inl ?_), p4, p5.mono (fun _ _ h _ => h) fun b h => .inl (.inl ?_)⟩⟩
          · exact z.imp id (ow dd).mp
          · exact h.imp id (ow b).mp
theorem callF_imp {F : Fn} {m : M (List Opnd)} {Q : VK} (h : tR K mg D0 W (OutR K mg D0) (callF F m) σ H Q) :
    tA K mg D0 W (OpdsR K mg D0) m σ H fun vs H1 => FnSp K mg F vs H1 Q fun cls d H' => W cls d σ H' := by
  obtain ⟨env, R, h⟩ := h
  exact ⟨env, R, callF_pl R h⟩
end
/-! ### a call whose first argument is new and given away -/
/-- the caller's state, as if a name more held the object -/
theorem ownA_push {env : En} {σ : L2.St} {t : T} {a b : Addr} (hl : env.length = σ.length) : ownA (env ++ [some (.own, t)]) (σ ++ [some (.ref a)]) b ↔ ownA env σ b ∨ b = a := by
  constructor
  · rintro ⟨i, f, u, e, hf, s⟩
    rcases Nat.lt_or_ge i env.length with h | h
    · rw [List.getElem?_append_left h] at e
      rw [List.getElem?_append_left (by omega)] at s
      exact .inl ⟨i, f, u, e, hf, s⟩
    · have hi : i = env.length := by have := (List.getElem?_eq_some_iff.mp e).1; simp at this; omega
      rw [List.getElem?_append_right (by omega), show i - σ.length = 0 by omega] at s
      cases s
      exact .inr rfl
  · rintro (⟨i, f, u, e, hf, s⟩ | rfl)
    · have h := (List.getElem?_eq_some_iff.mp e).1
      exact ⟨i, f, u, by rw [List.getElem?_append_left h]; exact e, hf, by rw [List.getElem?_append_left (by omega)]; exact s⟩
    · exact ⟨env.length, .own, t, by rw [List.getElem?_append_right (Nat.le_refl _), Nat.sub_self]; rfl, .inl rfl, by rw [hl, List.getElem?_append_right (Nat.le_refl _), Nat.sub_self]; rfl⟩
theorem get_push {α : Type} {xs : List α} {x y : α} {i : Nat} (h : (xs ++ [x])[i]? = some y) : (i < xs.length ∧ xs[i]? = some y) ∨ (i = xs.length ∧ x = y) := by
  rcases Nat.lt_or_ge i xs.length with q | q
  · rw [List.getElem?_append_left q] at h
    exact .inl ⟨q, h⟩
  · have hi : i = xs.length := by have := (List.getElem?_eq_some_iff.mp h).1; simp at this; omega
    subst hi
    rw [List.getElem?_append_right (Nat.le_refl _), Nat.sub_self] at h
    exact .inr ⟨rfl, Option.some.inj h⟩
section
variable {K : PySem.W.Frag} {mg : Str → Option Value} {H H0 H1 H' : Hp} {D0 : Addr → Prop} {env env1 env2 : En} {σ : L2.St} {W : WX}
theorem dof_push {a b : Addr} {t : T} (hl : env.length = σ.length) : Dof D0 (env ++ [some (.own, t)]) (σ ++ [some (.ref a)]) b ↔ Dof (orA D0 a) env σ b := by
  unfold Dof orA
  rw [ownA_push hl]
  constructor
  · rintro (h | h | h)
    · exact .inl (.inl h)
    · exact .inr h
    · exact .inl (.inr h)
  · rintro ((h | h) | h)
    · exact .inl h
    · exact .inr (.inr h)
    · exact .inr (.inl h)
theorem SR.push {t : T} {a : Addr} (R : SR K mg (orA D0 a) H env σ) (rt : RepTop K mg H (Dof (orA D0 a) env σ) t a) (na : ¬ D0 a) (np : ¬ parA env σ a) (hd : ∀ b, D0 b → H b ≠ none) : SR K mg D0 H (env ++ [some (.own, t)]) (σ ++ [some (.ref a)]) := by
  have hl := R.len
  have dd : ∀ b, Dof D0 (env ++ [some (.own, t)]) (σ ++ [some (.ref a)]) b → Dof (orA D0 a) env σ b := fun b => (dof_push hl).mp
  have up : ∀ {i : Nat} {f : Fl} {u : T}, (env ++ [some (.own, t)])[i]? = some (some (f, u)) → f ≠ .sh → ∀ b, (σ ++ [some (.ref a)])[i]? = some (some (.ref b)) → (∃ _ : i < env.length, env[i]? = some (some (f, u)) ∧ σ[i]? = some (some (.ref b)) ∧ ¬ (b = a)) ∨ (i = env.length ∧ b = a) := fun {i f u} e hf b s => by
    rcases get_push e with ⟨h, e⟩ | ⟨rfl, e⟩
    · rw [List.getElem?_append_left (by omega)] at s
      refine .inl ⟨h, e, s, fun z => ?_⟩
      subst z
      obtain ⟨c, sc, _, c1, c2⟩ := R.top i f u e hf
      rw [s] at sc; cases sc
      cases f with
      | sh => exact hf rfl
      | own => exact c1 (.inl rfl) (.inr rfl)
      | lck => exact c1 (.inr rfl) (.inr rfl)
      | bor => exact np ⟨i, _, u, e, .inl rfl, s⟩
      | io => exact np ⟨i, _, u, e, .inr rfl, s⟩
    · rw [hl, List.getElem?_append_right (Nat.le_refl _), Nat.sub_self] at s
      cases s
      exact .inr ⟨rfl, rfl⟩
  refine ⟨by simp [hl], fun i u e => ?_, fun i f u e hf => ?_, fun i j f g u w b e1 e2 h1 h2 s1 s2 => ?_, hd⟩
  · rcases get_push e with ⟨h, e⟩ | ⟨_, e⟩
    · obtain ⟨v, sv, r⟩ := R.sh i u e
      exact ⟨v, by rw [List.getElem?_append_left (by omega)]; exact sv, r.mono (fun _ _ h _ => h) fun b h => .inl (dd b h)⟩
    · cases e
  · rcases get_push e with ⟨h, e0⟩ | ⟨rfl, e0⟩
    · obtain ⟨b, sb, rb, c1, c2⟩ := R.top i f u e0 hf
      refine ⟨b, by rw [List.getElem?_append_left (by omega)]; exact sb, rb.mono (fun _ _ h _ => h) (fun c h => .inl (dd c h)) rfl, fun z hz => c1 z (.inl hz), fun z => ?_⟩
      rcases c2 z with q | q
      · exact q
      · rcases up e hf b (by rw [List.getElem?_append_left (by omega)]; exact sb) with ⟨_, _, _, hne⟩ | ⟨hi, _⟩
        · exact absurd q hne
        · omega
    · cases e0
      exact ⟨a, by rw [hl, List.getElem?_append_right (Nat.le_refl _), Nat.sub_self]; rfl, rt.mono (fun _ _ h _ => h) (fun c h => .inl (dd c h)) rfl, fun _ => na, fun z => by rcases z with z | z <;> cases z⟩
  · rcases up e1 h1 b s1 with ⟨p1, q1, r1, n1⟩ | ⟨p1, q1⟩
    · rcases up e2 h2 b s2 with ⟨p2, q2, r2, n2⟩ | ⟨p2, q2⟩
      · exact R.inj i j f g u w b q1 q2 h1 h2 r1 r2
      · exact absurd q2 n1
    · rcases up e2 h2 b s2 with ⟨p2, q2, r2, n2⟩ | ⟨p2, q2⟩
      · exact absurd q1 n2
      · omega
theorem SR.pop {t : T} {a : Addr} (hl : env.length = σ.length) (R : SR K mg D0 H (env ++ [some (.own, t)]) (σ ++ [some (.ref a)])) : SR K mg D0 H env σ := by
  have dd : ∀ b, Dof D0 env σ b → Dof D0 (env ++ [some (.own, t)]) (σ ++ [some (.ref a)]) b := fun b h => h.elim .inl fun z => .inr ((ownA_push hl).mpr (.inl z))
  have ge : ∀ {i : Nat} {s : Slot}, env[i]? = some s → (env ++ [some (.own, t)])[i]? = some s := fun {i s} e => by rw [List.getElem?_append_left (List.getElem?_eq_some_iff.mp e).1]; exact e
  have gs : ∀ {i : Nat} {f : Fl} {u : T} {v : V}, env[i]? = some (some (f, u)) → (σ ++ [some (.ref a)])[i]? = some (some v) → σ[i]? = some (some v) := fun {i f u v} e s => by rw [List.getElem?_append_left (by have := (List.getElem?_eq_some_iff.mp e).1; omega)] at s; exact s
  have gt : ∀ {i : Nat} {f : Fl} {u : T} {v : V}, env[i]? = some (some (f, u)) → σ[i]? = some (some v) → (σ ++ [some (.ref a)])[i]? = some (some v) := fun {i f u v} e s => by rw [List.getElem?_append_left (by have := (List.getElem?_eq_some_iff.mp e).1; omega)]; exact s
  refine ⟨hl, fun i u e => ?_, fun i f u e hf => ?_, fun i j f g u w b e1 e2 h1 h2 s1 s2 => R.inj i j f g u w b (ge e1) (ge e2) h1 h2 (gt e1 s1) (gt e2 s2), R.dom⟩
  · obtain ⟨v, sv, r⟩ := R.sh i u (ge e)
    exact ⟨v, gs e sv, r.mono (fun _ _ h _ => h) fun b h => .inl (dd b h)⟩
  · obtain ⟨b, sb, rb, c1, c2⟩ := R.top i f u (ge e) hf
    exact ⟨b, gs e sb, rb.mono (fun _ _ h _ => h) (fun c h => .inl (dd c h)) rfl, c1, c2⟩
theorem mutA_push {t : T} {a b : Addr} (hl : env.length = σ.length) : mutA (env ++ [some (.own, t)]) (σ ++ [some (.ref a)]) b ↔ mutA env σ b ∨ b = a := by
  constructor
  · rintro ⟨i, f, u, e, hf, s⟩
    rcases get_push e with ⟨h, e⟩ | ⟨rfl, e⟩
    · rw [List.getElem?_append_left (by omega)] at s
      exact .inl ⟨i, f, u, e, hf, s⟩
    · rw [hl, List.getElem?_append_right (Nat.le_refl _), Nat.sub_self] at s
      cases s
      exact .inr rfl
  · rintro (⟨i, f, u, e, hf, s⟩ | rfl)
    · have h := (List.getElem?_eq_some_iff.mp e).1
      exact ⟨i, f, u, by rw [List.getElem?_append_left h]; exact e, hf, by rw [List.getElem?_append_left (by omega)]; exact s⟩
    · exact ⟨env.length, .own, t, by rw [List.getElem?_append_right (Nat.le_refl _), Nat.sub_self]; rfl, .inl rfl, by rw [hl, List.getElem?_append_right (Nat.le_refl _), Nat.sub_self]; rfl⟩
/-- back from the state with a name more: a is new since H0 -/
theorem Step.pop {t t' : T} {a : Addr} (hl : env1.length = σ.length) (hl2 : env2.length = σ.length) (ha : H0 a = none) (S : Step env σ H0 env1 σ H) (S2 : Step (env1 ++ [some (.own, t)]) (σ ++ [some (.ref a)]) H (env2 ++ [some (.own, t')]) (σ ++ [some (.ref a)]) H') : Step env σ H0 env2 σ H' := by
  refine ⟨fun b o h n => ?_, fun b h => ?_, fun b h => ?_, fun i f u e p => ?_, fun b h => S2.dom b (S.dom b h), fun b h => ?_⟩
  · refine S2.keep b o (S.keep b o h n) fun z => ?_
    rcases (mutA_push hl).mp z with z | z
    · rcases S.mu b z with z | z
      · exact n z
      · rw [z] at h; cases h
    · rw [z, ha] at h; cases h
  · rcases S2.own b ((ownA_push hl2).mpr (.inl h)) with z | z
    · rcases (ownA_push hl).mp z with z | z
      · exact S.own b z
      · exact .inr (by rw [z]; exact ha)
    · exact .inr (none_of S.dom z)
  · rcases S2.mu b ((mutA_push hl2).mpr (.inl h)) with z | z
    · rcases (mutA_push hl).mp z with z | z
      · exact S.mu b z
      · exact .inr (by rw [z]; exact ha)
    · exact .inr (none_of S.dom z)
  · obtain ⟨_, t1, e1⟩ := S.par i f u e p
    have hi := (List.getElem?_eq_some_iff.mp e1).1
    obtain ⟨_, t2, e2⟩ := S2.par i f t1 (by rw [List.getElem?_append_left hi]; exact e1) p
    exact ⟨rfl, t2, by rw [List.getElem?_append_left (by omega)] at e2; exact e2⟩
  · refine S.back b ?_
    obtain ⟨i, f, u, e, hf, s⟩ := h
    have hi := (List.getElem?_eq_some_iff.mp e).1
    obtain ⟨j, g, w, e3, hg, s3⟩ := S2.back b ⟨i, f, u, by rw [List.getElem?_append_left hi]; exact e, hf, by rw [List.getElem?_append_left (by omega)]; exact s⟩
    rcases get_push e3 with ⟨h3, e3⟩ | ⟨_, e3⟩
    · exact ⟨j, g, w, e3, hg, by rw [List.getElem?_append_left (by omega)] at s3; exact s3⟩
    · cases e3; rcases hg with z | z <;> cases z
theorem OpdL.push {t : T} {a : Addr} {os : List Opnd} {vs : List V} (hl : env.length = σ.length) (hv : OpdL K mg H (Dof (orA D0 a) env σ) σ os vs) : OpdL K mg H (Dof D0 (env ++ [some (Fl.own, t)]) (σ ++ [some (V.ref a)])) (σ ++ [some (V.ref a)]) os vs := by
  induction hv with
  | nil => exact .nil
  | val r _ ih => exact .val (r.mono (fun _ _ h _ => h) fun b h => .inl ((dof_push hl).mp h)) ih
  | @slot i w _ _ s _ ih => exact .slot (by rw [List.getElem?_append_left (List.getElem?_eq_some_iff.mp s).1]; exact s) ih
theorem argvs_push {x : Slot} : ∀ {ps : List Pk} {os : List Opnd} {a : Argv}, argvs env ps os = some a → argvs (env ++ [x]) ps os = some a ∧ ∀ i ∈ a.lent, i < env.length
  | [], [], a, h => by cases h; exact ⟨rfl, nofun⟩
  | .io :: ps, .slot i :: os, a, h => by
    unfold argvs at h ⊢
    split at h
    · rename_i f t b ef eb
      split at h
      · rename_i hc
        cases h
        obtain ⟨i1, i2⟩ := argvs_push (x := x) eb
        have hi := (List.getElem?_eq_some_iff.mp ef).1
        rw [List.getElem?_append_left hi, ef, i1]
        exact ⟨if_pos hc, fun j hj => (List.mem_cons.mp hj).elim (fun z => by rw [z]; exact hi) (i2 j)⟩
      · cases h
    · cases h
  | .rd :: ps, .slot i :: os, a, h => by
    unfold argvs at h ⊢
    split at h
    · rename_i f t b ef eb
      obtain ⟨i1, i2⟩ := argvs_push (x := x) eb
      have hi := (List.getElem?_eq_some_iff.mp ef).1
      rw [List.getElem?_append_left hi, ef, i1]
      split at h
      · rename_i hc
        cases h
        exact ⟨if_pos hc, i2⟩
      · rename_i hc
        split at h
        · rename_i hl
          cases h
          refine ⟨?_, fun j hj => (List.mem_cons.mp hj).elim (fun z => by rw [z]; exact hi) (i2 j)⟩
          dsimp only
          rw [if_neg hc, if_pos hl]
        · cases h
    · cases h
  | .rd :: ps, .val t :: os, a, h => by
    unfold argvs at h ⊢
    split at h
    · rename_i b eb
      cases h
      obtain ⟨i1, i2⟩ := argvs_push (x := x) eb
      rw [i1]
      exact ⟨rfl, i2⟩
    · cases h
  | .es :: ps, .val t :: os, a, h => by
    unfold argvs at h ⊢
    split at h
    · rename_i b eb
      cases h
      obtain ⟨i1, i2⟩ := argvs_push (x := x) eb
      rw [i1]
      exact ⟨rfl, i2⟩
    · cases h
  | .io :: ps, .val t :: os, a, h => by simp [argvs] at h
  | .es :: ps, .slot t :: os, a, h => by simp [argvs] at h
  | [], _ :: _, a, h => by simp [argvs] at h
  | _ :: _, [], a, h => by simp [argvs] at h
theorem setT_push {x : Slot} {i : Nat} {t : T} (h : setT env i t = some env2) : setT (env ++ [x]) i t = some (env2 ++ [x]) := by
  obtain ⟨f, u, e, rfl⟩ := setT_is h
  have hi := (List.getElem?_eq_some_iff.mp e).1
  unfold setT
  rw [List.getElem?_append_left hi, e]
  show some ((env ++ [x]).set i _) = _
  rw [List.set_append_left _ _ hi]
theorem writeB_push {x : Slot} : ∀ {md : List Md} {os : List Opnd} {ts : List T} {env env2 : En}, writeB env md os ts = some env2 → writeB (env ++ [x]) md os ts = some (env2 ++ [x])
  | [], [], [], env, env2, h => by cases h; rfl
  | .io :: ms, .slot i :: os, t :: ts, env, env2, h => by
    unfold writeB at h ⊢
    obtain ⟨e1, h1, h2⟩ := Option.bind_eq_some_iff.mp h
    rw [setT_push h1]
    exact writeB_push h2
  | .io :: ms, .val u :: os, t :: ts, env, env2, h => by
    have h : writeB env ms os ts = some env2 := by simpa [writeB] using h
    have := writeB_push (x := x) h
    simpa [writeB] using this
  | .sh :: ms, o :: os, t :: ts, env, env2, h => by
    have h : writeB env ms os ts = some env2 := by simpa [writeB] using h
    have := writeB_push (x := x) h
    simpa [writeB] using this
  | .bor :: ms, o :: os, t :: ts, env, env2, h => by
    have h : writeB env ms os ts = some env2 := by simpa [writeB] using h
    have := writeB_push (x := x) h
    simpa [writeB] using this
  | [], _ :: _, _, _, _, h => by simp [writeB] at h
  | [], [], _ :: _, _, _, h => by simp [writeB] at h
  | .io :: _, [], _, _, _, h => by simp [writeB] at h
  | .sh :: _, [], _, _, _, h => by simp [writeB] at h
  | .bor :: _, [], _, _, _, h => by simp [writeB] at h
  | .io :: _, .slot _ :: _, [], _, _, h => by simp [writeB] at h
  | .io :: _, .val _ :: _, [], _, _, h => by simp [writeB] at h
  | .sh :: _, _ :: _, [], _, _, h => by simp [writeB] at h
  | .bor :: _, _ :: _, [], _, _, h => by simp [writeB] at h
/-- a call whose first argument is given away, by its def's promise -/
theorem callO_imp {F : Fn} {n : M Out} {m : M (List Opnd)} {Q : VK} (h : tR K mg D0 W (OutR K mg D0) (callO F n m) σ H Q) :
    tR K mg D0 W (OutR K mg D0) n σ H fun v H1 => ∃ D1, tA K mg D1 W (OpdsR K mg D1) m σ H1 fun vs H2 => FnSp K mg F (v :: vs) H2 Q fun cls d H' => W cls d σ H' := by
  obtain ⟨env, R, h⟩ := h
  refine ⟨env, R, ?_⟩
  cases e : n env with
  | stuck => simp only [callO, e, bind_stuck] at h; exact h
  | exc x env0 => simp only [callO, e, bind_exc] at h; exact h
  | ok o env0 =>
    simp only [callO, e, bind_ok] at h
    cases o with
    | val t => exact h.elim
    | own t =>
      intro v H1 S1 R1 ho
      obtain ⟨a, rfl, hna, Rx, rt⟩ := ho
      have na : ¬ D0 a := fun z => R.dom a z hna
      have np0 : ¬ parA env0 σ a := fun ⟨i, f, u, ei, hf, s⟩ => by
        obtain ⟨b, sb, _, _, c2⟩ := R1.top i f u ei (by rcases hf with rfl | rfl <;> decide)
        rw [s] at sb; cases sb
        exact na (c2 hf)
      refine ⟨orA D0 a, env0, Rx, ?_⟩
      cases em : m env0 with
      | stuck => simp only [em, bind_stuck] at h; exact h
      | exc x env1 =>
        simp only [em, bind_exc] at h
        intro cls d H2 S2 R2 xr
        refine h cls d H2 (S1.trans S2) ?_ ?_
        · refine R2.to R2.len (fun _ _ h _ => h) (fun b h => .inl (h.imp .inl id)) (fun i u e => .inl ⟨e, rfl⟩) (fun i f u e hf => .inl ⟨f, e, hf, rfl, fun _ _ => rfl⟩) (fun i f u b e hf s => ?_) R2.inj fun b h => R2.dom b (.inl h)
          obtain ⟨c, sc, _, c1, c2⟩ := R2.top i f u e hf
          rw [s] at sc; cases sc
          refine ⟨fun z hz => c1 z (.inl hz), fun z => (c2 z).resolve_right fun q => ?_⟩
          subst q
          exact np0 (S2.back _ ⟨i, f, u, e, z, s⟩)
        · obtain ⟨c, fn, fv, Ca, q1, q2, q3, q4⟩ := xr
          exact ⟨c, fn, fv, Ca, q1, q2, q3, q4.imp id fun ⟨dd, ws, p1, p2, p3, p4, p5⟩ => ⟨dd, ws, p1, p2, fun z => p3 (z.imp .inl id), p4, p5.mono (fun _ _ h _ => h) fun b h => .inl (h.imp .inl id)⟩⟩
      | ok os env1 =>
        simp only [em, bind_ok] at h
        intro vs H2 S2 R2 hv
        cases hpk : F.pk with
        | nil => simp only [hpk] at h; exact h.elim
        | cons pk ps =>
          cases pk with
          | rd => simp only [hpk] at h; exact h.elim
          | es => simp only [hpk] at h; exact h.elim
          | io =>
            simp only [hpk] at h
            cases ea : argvs env1 ps os with
            | none => simp only [ea] at h; exact h.elim
            | some av =>
              simp only [ea] at h
              have hl1 := R2.len
              have np1 : ¬ parA env1 σ a := fun z => np0 (S2.back _ z)
              have hnm : ¬ mutA env0 σ a := fun ⟨i, f, u, ei, hf, s⟩ => by
                rcases hf with rfl | rfl
                · obtain ⟨b, sb, _, c1, _⟩ := Rx.top i _ u ei (by decide)
                  rw [s] at sb; cases sb
                  exact c1 (.inl rfl) (.inr rfl)
                · exact np0 ⟨i, _, u, ei, .inr rfl, s⟩
              have rt2 : RepTop K mg H2 (Dof (orA D0 a) env1 σ) t a := by
                obtain ⟨ob, hob⟩ := rt.there
                exact rt.mono (S2.k Rx) (fun b h => (S2.d b h)) (by rw [hob]; exact S2.keep a ob hob hnm)
              have P := R2.push rt2 na np1 fun b z => R2.dom b (.inl z)
              obtain ⟨ap, al⟩ := argvs_push (x := some (.own, t)) ea
              have eap : argvs (env1 ++ [some (.own, t)]) (.io :: ps) (.slot env1.length :: os) = some ⟨.io :: av.md, t :: av.ts, env1.length :: av.lent⟩ := by
                unfold argvs
                rw [List.getElem?_append_right (Nat.le_refl _), Nat.sub_self, ap]
                exact if_pos ⟨.inl rfl, fun z => absurd (al _ z) (by omega)⟩
              have hop : OpdL K mg H2 (Dof D0 (env1 ++ [some (.own, t)]) (σ ++ [some (.ref a)])) (σ ++ [some (.ref a)]) (.slot env1.length :: os) (.ref a :: vs) := by
                refine .slot (by rw [hl1, List.getElem?_append_right (Nat.le_refl _), Nat.sub_self]; rfl) ?_
                exact OpdL.push hl1 hv
              obtain ⟨l1, l2, l3, _, _⟩ := argvs_is eap
              have e0 : (fun b => D0 b ∨ ownA (env1 ++ [some (.own, t)]) (σ ++ [some (.ref a)]) b) = Dof D0 (env1 ++ [some (.own, t)]) (σ ++ [some (.ref a)]) := rfl
              have l1' : (Md.io :: av.md).length = F.pk.length := by rw [hpk]; exact l1
              have l2' : (t :: av.ts).length = F.pk.length := by rw [hpk]; exact l2
              refine ⟨.io :: av.md, t :: av.ts, Dof D0 (env1 ++ [some (.own, t)]) (σ ++ [some (.ref a)]), l1', l2', by rw [hpk, ← l3]; exact (OpdL.at hop).1.symm, call_start P hop eap, ?_⟩
              have wp : ∀ {t0 : T} {outs : List T} {env2 : En}, writeB env1 av.md os outs = some env2 → writeB (env1 ++ [some (.own, t)]) (.io :: av.md) (.slot env1.length :: os) (t0 :: outs) = some (env2 ++ [some (.own, t0)]) := fun {t0 outs env2} ew => by
                unfold writeB setT
                rw [List.getElem?_append_right (Nat.le_refl _), Nat.sub_self]
                show (some ((env1 ++ [some (Fl.own, t)]).set env1.length (some (Fl.own, t0)))).bind _ = _
                rw [Option.bind_some, List.set_append_right _ _ (Nat.le_refl _), Nat.sub_self]
                exact writeB_push ew
              have ndIo : ∀ j k i, IoAt (Md.io :: av.md) (.slot env1.length :: os) j i → IoAt (Md.io :: av.md) (.slot env1.length :: os) k i → j = k := fun j k i h1 h2 => (argvs_is eap).2.2.2.2 j k i .io .io h1.1 h2.1 (by decide) (by decide) h1.2 h2.2
              have S12 := S1.trans S2
              cases er : F.run (.io :: av.md) (t :: av.ts) with
              | stuck => simp only [er] at h; exact h
              | ok o ts' =>
                simp only [er] at h ⊢
                cases ts' with
                | nil => exact h.elim
                | cons t0 outs =>
                  dsimp only at h
                  cases ew : writeB env1 av.md os outs with
                  | none => simp only [ew] at h; exact h.elim
                  | some env2 =>
                    simp only [ew] at h
                    have lt := (writeB_is (wp (t0 := t0) ew) ndIo).1
                    have hl2 : env2.length = σ.length := by
                      have := (writeB_is (wp (t0 := t0) ew) ndIo).2.1
                      simp at this; omega
                    refine ⟨by rw [lt, l1, ← l2], fun v H' S R' q => ?_⟩
                    obtain ⟨S3, R3, ow⟩ := call_back (D1 := D0) P hop eap (wp ew) S (fun b h => .inl h) (fun b h => h) R'
                    refine h v H' (Step.pop hl1 hl2 hna S12 S3) (SR.pop hl2 R3) ?_
                    cases o with
                    | val u =>
                      refine Rep.mono (D := Dof (Dof D0 (env1 ++ [some (Fl.own, t)]) (σ ++ [some (V.ref a)])) (argE (.io :: av.md) (t0 :: outs)) ((V.ref a :: vs).map some)) (fun _ _ h _ => h) (fun b h => .inl (.inl ?_)) q
                      exact h.imp id fun z => (ow b).mp ((ownA_push hl2).mpr (.inl z))
                    | own u =>
                      obtain ⟨ad, ev, hn, Rv, rv⟩ := q
                      have Rv' : SR K mg (fun b => orA D0 ad b ∨ ownA (env1 ++ [some (.own, t)]) (σ ++ [some (.ref a)]) b) H' (argE (.io :: av.md) (t0 :: outs)) ((V.ref a :: vs).map some) := by
                        have : (fun b => orA D0 ad b ∨ ownA (env1 ++ [some (.own, t)]) (σ ++ [some (.ref a)]) b) = orA (Dof D0 (env1 ++ [some (.own, t)]) (σ ++ [some (.ref a)])) ad := by
                          funext b; unfold orA Dof; rw [eq_iff_iff]
                          constructor
                          · rintro ((h | h) | h)
                            · exact .inl (.inl h)
                            · exact .inr h
                            · exact .inl (.inr h)
                          · rintro ((h | h) | h)
                            · exact .inl (.inl h)
                            · exact .inr h
                            · exact .inl (.inr h)
                        rw [this]; exact Rv
                      obtain ⟨_, R4, ow3⟩ := call_back (D1 := orA D0 ad) P hop eap (wp ew) S (fun b h => h.imp id fun z => by rw [z]; exact hn) (fun b h => .inl h) Rv'
                      refine ⟨ad, ev, none_of S12.dom hn, SR.pop hl2 R4, ?_⟩
                      refine rv.mono (fun _ _ h _ => h) (fun b h => .inl (.inl ?_)) rfl
                      rcases h with (h | h) | h
                      · exact .inl (.inl h)
                      · exact .inr h
                      · exact .inl (.inr ((ow b).mp ((ownA_push hl2).mpr (.inl h))))
              | exc x ts' =>
                simp only [er] at h ⊢
                cases ts' with
                | nil => exact h.elim
                | cons t0 outs =>
                  dsimp only at h
                  cases ew : writeB env1 av.md os outs with
                  | none => simp only [ew] at h; exact h.elim
                  | some env2 =>
                    simp only [ew] at h
                    have lt := (writeB_is (wp (t0 := t0) ew) ndIo).1
                    have hl2 : env2.length = σ.length := by
                      have := (writeB_is (wp (t0 := t0) ew) ndIo).2.1
                      simp at this; omega
                    refine ⟨by rw [lt, l1, ← l2], fun cls d H' S R' q => ?_⟩
                    obtain ⟨S3, R3, ow⟩ := call_back (D1 := D0) P hop eap (wp ew) S (fun b h => .inl h) (fun b h => h) R'
                    refine h cls d H' (Step.pop hl1 hl2 hna S12 S3) (SR.pop hl2 R3) ?_
                    obtain ⟨c, fn, fv, Ca, q1, q2, q3, q4⟩ := q
                    refine ⟨c, fn, fv, Ca, q1, q2, q3, q4.imp id fun ⟨dd, ws, p1, p2, p3, p4, p5⟩ => ⟨dd, ws, p1, p2, fun z => p3 (.inl ?_), p4, p5.mono (fun _ _ h _ => h) fun b h => .inl (.inl ?_)⟩⟩
                    · exact z.imp id fun z => (ow dd).mp ((ownA_push hl2).mpr (.inl z))
                    · exact h.imp id fun z => (ow b).mp ((ownA_push hl2).mpr (.inl z))
end
end VL

set_option maxHeartbeats 2000000
namespace VL
open PySem PySem.Spec PyProof.Rows L2

/-! ### what must hold around a def's body -/
def bnames : List Str := ["len", "abs", "max", "min", "sum", "any", "all", "sorted", "list", "tuple", "int", "str", "divmod", "dict", "isinstance", "range", "enumerate", "zip", "bool", "set", "ValueError"]
/-- an __init__ that lays its arguments as fields -/
def InitSp (C : Addr) (fn : List Str) : Sp := fun vs H Q _ => ∃ (a dx : Addr) (ws : List V), vs = .ref a :: ws ∧ ws.length = fn.length ∧ H a = some (.ins C dx []) ∧ Q .non (upd H a (.ins C dx (fn.zip ws)))
/-- what is asked of an exception class beyond XcK: its classes -/
def tyL : List String := ["NoneType", "bool", "int", "str", "list", "tuple", "dict"]
/-- what isinstance asks of an instance's class -/
def InsT (K : PySem.W.Frag) (C : Addr) : Prop := PySem.W.findIn K (.ref C) "__class__" = some (some (.builtin "object.__class__")) ∧ PySem.W.specialIn K (.builtin "object.__class__") "__get__" = some (some (.builtin "getset_descriptor.__get__")) ∧ PySem.W.takesIn K (.builtin "object.__class__") = some true ∧ PySem.W.mroIn K C (.type "object") = some true
def XcT (K : PySem.W.Frag) (C : Addr) : Prop := PySem.W.kitOne K (.ref C) (.type "ValueError") = some true ∧ ∀ n ∈ tyL, PySem.W.kitOne K (.type n) (.ref C) = some false
/-- how it is made -/
def RaiseK (P : Program) (w : World) (K : PySem.W.Frag) (mg : Str → Option Value) (base : Heap) (k : Nat) (C : Addr) (fs : List Str) : Prop :=
  (fs = [] ∧ PySem.W.excIn K C HandSPX.veTail "ValueError.__new__" = true) ∨ ∃ (g : Str) (f : Addr) (fd : FuncData) (ps : List Str), fs = [g] ∧ OexC K C ∧ PySem.W.findIn K (.ref C) "__init__" = some (some (.ref f)) ∧
    PySem.W.typeIn K (.ref f) = some (.type "function") ∧ FnOk P w K mg base (L2.CX P w) k f fd ps (InitX K g) ∧ Binds K fd ps []
structure Mo (P : Program) (w : World) (K : PySem.W.Frag) (mg : Str → Option Value) (base : Heap) (A : Around) (Γ : Ct) (Φ : Ft) : Prop where
  bl : ∀ x, x ∈ bnames → mg x = none
  gl : ∀ x t, Γ.gl x = some t → ∃ u v, mg x = some u ∧ RelV v u ∧ ∀ H D, Rep K mg H D t v
  fn : ∀ x F, x ∈ Γ.dfs → Γ.hot = false → Φ.fn x = some F → ∃ (f : Addr) (fd : FuncData) (ps : List Str) (k : Nat), mg x = some (.ref f) ∧ PySem.W.keepIn K (.ref f) = true ∧ Binds K fd ps [] ∧ FnOk P w K mg base (L2.CX P w) k f fd ps (FnSp K mg F) ∧ Room k A
  fq : ∀ x F, x ∈ Γ.hfs → Φ.fn x = some F → ∃ (f : Addr) (fd : FuncData) (ps : List Str) (k : Nat), mg x = some (.ref f) ∧ PySem.W.keepIn K (.ref f) = true ∧ Binds K fd ps [] ∧ FnQ P w K mg base (L2.CX P w) k f fd ps (FnSp K mg F) ∧ RoomQ k A
  mkc : ∀ c fn, c ∈ Γ.cls → Γ.hot = false → Φ.mkf c = some fn → ∃ (C f : Addr) (fd : FuncData) (ps : List Str) (k : Nat), mg c = some (.ref C) ∧ Mk K C f ∧ FnOk P w K mg base (L2.CX P w) k f fd ps (InitSp C fn) ∧ Room (k + 1) A ∧ Binds K fd ps []
  kn : ∀ c f C, Φ.kn c f = true → mg c = some (.ref C) → Cls K C ∧ NoAttr K C f
  me : ∀ c m F C, Γ.hot = false → Φ.me c m = some F → mg c = some (.ref C) → Cls K C ∧ ∃ (f : Addr) (fd : FuncData) (ps : List Str) (k : Nat), Meth K C m f ∧ FnOk P w K mg base (L2.CX P w) k f fd ps (FnSp K mg F) ∧ Binds K fd ps [] ∧ Room k A
  ex : ∀ x fs, Φ.ex x = some fs → ∃ (C : Addr) (k : Nat), mg x = some (.ref C) ∧ XcK K C ∧ XcT K C ∧ (∀ f ∈ fs, PySem.W.findIn K (.ref C) f = some none) ∧ RaiseK P w K mg base k C fs ∧ (Γ.hot = false → Room (k + 1) A)
  exs : ∀ x, x ∈ Γ.exs → (Φ.ex x).isSome = true
  isa : ∀ c d fc fd C D, Φ.ex c = some fc → Φ.ex d = some fd → mg c = some (.ref C) → mg d = some (.ref D) → PySem.W.subIn K (.ref C) (.ref D) = some (Φ.isa c d) ∧ PySem.W.kitOne K (.ref C) (.ref D) = some (Φ.isa c d)
  cis : ∀ c d fc fd C D, Φ.mkf c = some fc → Φ.mkf d = some fd → mg c = some (.ref C) → mg d = some (.ref D) → Cls K C ∧ InsT K C ∧ PySem.W.kitOne K (.ref C) (.ref D) = some (Φ.cis c d)
  mks : ∀ x, x ∈ Γ.cls → (Φ.mkf x).isSome = true
structure Ok (Γ : Ct) (Φ : Ft) (X : Cx) (W : WX) : Prop where
  N : X.N = Γ.N
  sc : X.env.scope = Γ.sc
  kd : X.env.scope.kind = .function
  nd : Γ.N.Nodup
  calm : Γ.hot = false → X.calm = true
  hu : X.A.units + 64 < cLine
  tk : Takes X W
  ps : PassesOwn (model X.prog X.w) X.A X.env X.xe
  fnc : ∀ x, Γ.fnc x = true → X.fn x = true
  mo : Mo X.prog X.w X.K X.mg X.base X.A Γ Φ

/-! ### the text -/
theorem okName_is {x : Str} (h : okName x = true) : (x == ("__debug__" : Str)) = false ∧ (x == ("__classdict__" : Str)) = false ∧ x ≠ "__name__" := by
  unfold okName at h
  simp only [Bool.and_eq_true, decide_eq_true_eq] at h
  exact ⟨beq_eq_false_iff_ne.mpr h.1.1, beq_eq_false_iff_ne.mpr h.1.2, h.2⟩
theorem ixN0_is : ∀ {N : List Str} {x : Str} {i : Nat}, ixN0 N x = some i → N[i]? = some x
  | y :: ys, x, i, h => by
    unfold ixN0 at h
    split at h
    · rename_i e; cases h; subst e; rfl
    · obtain ⟨j, hj, e⟩ := Option.map_eq_some_iff.mp h
      subst e
      simpa using ixN0_is hj
  | [], _, _, h => by cases h
theorem visB_is {sc : Scope} {x : Str} (h : visB sc x = true) : Vis sc x := by
  unfold visB at h
  split at h
  · exact .inl (by assumption)
  · exact .inr (.inl (by assumption))
  · exact .inr (.inr (by assumption))
  · cases h
theorem glB_is {sc : Scope} {x : Str} (h : glB sc x = true) : sc.names.lookup x = some .globalImplicit := by
  unfold glB at h
  split at h
  · assumption
  · cases h
section
variable {Γ : Ct} {Φ : Ft} {X : Cx} {W : WX} {D0 : Addr → Prop}
theorem Ok.slot (ok : Ok Γ Φ X W) {x : Str} {i : Nat} (h : ixOf Γ x = some i) : X.N[i]? = some x ∧ Vis X.env.scope x ∧ (x == ("__debug__" : Str)) = false ∧ (x == ("__classdict__" : Str)) = false := by
  unfold ixOf at h
  split at h
  · rename_i hc
    simp only [Bool.and_eq_true] at hc
    exact ⟨by rw [ok.N]; exact ixN0_is h, by rw [ok.sc]; exact visB_is hc.1, (okName_is hc.2).1, (okName_is hc.2).2.1⟩
  · cases h
theorem Ok.gl (ok : Ok Γ Φ X W) {x : Str} (h : glB Γ.sc x = true) : Gl X x := by
  show X.env.scope.names.lookup x = _
  rw [ok.sc]; exact glB_is h
theorem compCall_slot {n : Nat} {x : Str} {args : List Expr} {i : Nat} : compCall n Γ x args ≠ some (.slot i) := fun h => by
  cases n with
  | zero => simp [compCall] at h
  | succ n =>
    unfold compCall at h
    repeat' split at h
    all_goals first
      | (cases h; done)
      | (obtain ⟨t, _, z⟩ := Option.map_eq_some_iff.mp h; cases z; done)
      | (obtain ⟨t, _, z⟩ := Option.bind_eq_some_iff.mp h; obtain ⟨t, _, z⟩ := Option.map_eq_some_iff.mp z; cases z; done)
      | (obtain ⟨t, _, z⟩ := Option.bind_eq_some_iff.mp h; repeat' split at z
         all_goals first | (cases z; done) | trivial)
theorem compMeth_slot {n : Nat} {o : Expr} {m : Str} {args : List Expr} {i : Nat} : compMeth n Γ o m args ≠ some (.slot i) := fun h => by
  cases n with
  | zero => simp [compMeth] at h
  | succ n =>
    unfold compMeth at h
    repeat' split at h
    all_goals first
      | (cases h; done)
      | (obtain ⟨t, _, z⟩ := Option.bind_eq_some_iff.mp h; obtain ⟨t, _, z⟩ := Option.map_eq_some_iff.mp z; cases z; done)
      | (obtain ⟨t, _, z⟩ := Option.bind_eq_some_iff.mp h; obtain ⟨t, _, z⟩ := Option.bind_eq_some_iff.mp z; obtain ⟨t, _, z⟩ := Option.map_eq_some_iff.mp z; cases z; done)
theorem compE_slot {n : Nat} {e : Expr} {i : Nat} (h : compE n Γ e = some (.slot i)) : ∃ x pos, e = .Name x pos ∧ ixOf Γ x = some i := by
  cases n with
  | zero => simp [compE] at h
  | succ n =>
    unfold compE at h
    repeat' split at h
    all_goals first
      | exact absurd h compCall_slot
      | exact absurd h compMeth_slot
      | (cases h; exact ⟨_, _, rfl, by assumption⟩)
      | (obtain ⟨t, _, z⟩ := Option.map_eq_some_iff.mp h; cases z; done)
      | (obtain ⟨t, _, z⟩ := Option.bind_eq_some_iff.mp h; obtain ⟨t, _, z⟩ := Option.map_eq_some_iff.mp z; cases z; done)
      | (obtain ⟨t, _, z⟩ := Option.bind_eq_some_iff.mp h; obtain ⟨t, _, z⟩ := Option.map_eq_some_iff.mp z; split at z <;> cases z; done)
      | (obtain ⟨t, _, z⟩ := Option.bind_eq_some_iff.mp h; obtain ⟨t, _, z⟩ := Option.bind_eq_some_iff.mp z; obtain ⟨t, _, z⟩ := Option.map_eq_some_iff.mp z; cases z; done)
      | (obtain ⟨t, _, z⟩ := Option.bind_eq_some_iff.mp h; obtain ⟨t, _, z⟩ := Option.bind_eq_some_iff.mp z; split at z; · (obtain ⟨t, _, z⟩ := Option.bind_eq_some_iff.mp z; first | (cases z; done) | (obtain ⟨t, _, z⟩ := Option.map_eq_some_iff.mp z; cases z; done)); · cases z)
      | (cases h; done)
/-- a starred thing isn't compiled -/
theorem notStar {n : Nat} {e : Expr} {c : C} {es : List Expr} {env : Env} (h : compE n Γ e = some c) : starEach (e :: es) env = (false, eval e env) :: starEach es env := by
  cases e <;> first | rfl | (cases n <;> simp [compE] at h)
theorem compL_stars {env : Env} : ∀ {n : Nat} {es : List Expr} {cs : List C}, compL n Γ es = some cs → ((starEach es env).any (·.1)) = false ∧ cs.length = es.length
  | 0, es, cs, h => by simp [compL] at h
  | n + 1, [], cs, h => by simp [compL] at h; subst h; exact ⟨rfl, rfl⟩
  | n + 1, e :: es, cs, h => by
    unfold compL at h
    obtain ⟨c, hc, z⟩ := Option.bind_eq_some_iff.mp h
    obtain ⟨ds, hd, z⟩ := Option.map_eq_some_iff.mp z
    subst z
    obtain ⟨i1, i2⟩ := compL_stars hd
    rw [notStar hc]
    exact ⟨by simpa using i1, by simp [i2]⟩
theorem backTo_any {pos : Pos} {l : List (Bool × Sem Value)} (h : (l.any (·.1)) = false) : ((backTo pos l).any (·.1)) = false := by
  unfold backTo
  rw [List.any_map]
  exact h
end
end VL

set_option maxHeartbeats 2000000
namespace VL
open PySem PySem.Spec PyProof.Rows L2

section
variable {K : PySem.W.Frag} {mg : Str → Option Value} {H H1 H' : Hp} {D0 D : Addr → Prop} {env env1 env2 : En} {σ : L2.St} {W : WX}
def isNonT : T → Bool
  | .non => true
  | _ => false
theorem RepP.isNon {t : T} {v : V} (h : RepP K mg H D t v) : decide (v = .non) = isNonT t := by
  rcases h with h | ⟨a, rfl, h⟩
  · cases h <;> simp [isNonT]
  · cases t <;> first | exact h.elim | simp [isNonT]
/-- the value that an operation tells outright -/
theorem PureQ.of_val {t : T} {Q : VK} (h : PureQ K mg D (some (.val t)) H Q) {w : V} (r : Rep K mg H D t w) : Q w H := by
  obtain ⟨out, e, k⟩ := h
  cases e
  exact k w H (Same.refl H) r
/-- a test over two operands -/
def bo2 (m n : M Opnd) (f : T → T → Option Bool) : M Bool := fun env => (m env).bind fun x env1 => (n env1).bind fun y env2 => optO ((opT env2 x).bind fun t => (opT env2 y).bind fun u => f t u) env2
theorem bo2_imp {m n : M Opnd} {f : T → T → Option Bool} {Q : Bool → Hp → Prop} (h : tB K mg D0 W (bo2 m n f) σ H Q) :
    tR K mg D0 W (OpdR K mg D0) m σ H fun v H1 => tR K mg D0 W (OpdR K mg D0) n σ H1 fun w H2 => ∃ D t u, D2 D H2 ∧ RepP K mg H2 D t v ∧ RepP K mg H2 D u w ∧ ∃ b, f t u = some b ∧ Q b H2 := by
  obtain ⟨env, R, h⟩ := h
  refine ⟨env, R, ?_⟩
  cases e : m env with
  | stuck => simp only [bo2, e, bind_stuck] at h; exact h
  | exc x env1 => simp only [bo2, e, bind_exc] at h; exact h
  | ok o env1 =>
    simp only [bo2, e, bind_ok] at h
    intro v H1 S R1 ho
    refine ⟨env1, R1, ?_⟩
    cases e2 : n env1 with
    | stuck => simp only [e2, bind_stuck] at h; exact h
    | exc x env2 => simp only [e2, bind_exc] at h; exact XPost.back S h
    | ok p env2 =>
      simp only [e2, bind_ok] at h
      intro w H2 S2 R2 hp
      cases eo : opT env2 o with
      | none => rw [eo] at h; exact h.elim
      | some t =>
        cases ep : opT env2 p with
        | none => rw [eo, ep] at h; exact h.elim
        | some u =>
          rw [eo, ep] at h
          simp only [Option.bind_some] at h
          cases ef : f t u with
          | none => rw [ef] at h; exact h.elim
          | some b =>
            rw [ef] at h
            exact ⟨_, t, u, R2.d2, (ho.step (Hb := H2) R1 S2).get R2 eo, hp.get R2 ep, b, ef, h H2 (S.trans S2) R2⟩
/-- a test over one operand -/
def bo1 (m : M Opnd) (f : T → Option Bool) : M Bool := fun env => (m env).bind fun x env1 => optO ((opT env1 x).bind f) env1
theorem bo1_imp {m : M Opnd} {f : T → Option Bool} {Q : Bool → Hp → Prop} (h : tB K mg D0 W (bo1 m f) σ H Q) :
    tR K mg D0 W (OpdR K mg D0) m σ H fun v H1 => ∃ D t, D2 D H1 ∧ RepP K mg H1 D t v ∧ ∃ b, f t = some b ∧ Q b H1 := by
  obtain ⟨env, R, h⟩ := h
  refine ⟨env, R, ?_⟩
  cases e : m env with
  | stuck => simp only [bo1, e, bind_stuck] at h; exact h
  | exc x env1 => simp only [bo1, e, bind_exc] at h; exact h
  | ok o env1 =>
    simp only [bo1, e, bind_ok] at h
    intro v H1 S R1 ho
    cases eo : opT env1 o with
    | none => rw [eo] at h; exact h.elim
    | some t =>
      rw [eo] at h
      simp only [Option.bind_some] at h
      cases ef : f t with
      | none => rw [ef] at h; exact h.elim
      | some b =>
        rw [ef] at h
        exact ⟨_, t, R1.d2, ho.get R1 eo, b, ef, h H1 S R1⟩
end

section
variable {X : Cx} {Γ : Ct} {Φ : Ft} {W : WX} {D0 : Addr → Prop}
theorem pt_tru {a : Expr} {ta : TE} {r : V → Hp → (Bool → Hp → Prop) → Prop} (hr : TruR X r) (ha : PE X a ta) (he : ∀ whole, isTrue a X.env whole = (do let v ← whole; standAt a.pos; holding [v] (truthy v))) :
    PT X a (fun σ H Q => ta σ H fun x H' => r x H' Q) := ⟨fun pins s σ H Q I h => isTrue_plain (thn (ha.run pins s σ H _ I h) fun v s1 ⟨x, H1, I1, r1, q1⟩ => hr pins s1 σ H1 x v Q I1 r1 q1) (he _)⟩
/-- an expression that is no and, or, not, comparison: its test is its value's truth -/
def plainT : Expr → Bool
  | .UnaryOp .Not _ _ => false
  | .BoolOp _ _ _ => false
  | .IfExp _ _ _ _ => false
  | .Compare _ _ _ _ => false
  | _ => true
theorem plainT_is {a : Expr} (h : plainT a = true) (env : Env) (whole : Sem Value) : isTrue a env whole = (do let v ← whole; standAt a.pos; holding [v] (truthy v)) := by
  cases a with
  | UnaryOp op x p => cases op <;> first | rfl | (simp [plainT] at h)
  | BoolOp _ _ _ => simp [plainT] at h
  | IfExp _ _ _ _ => simp [plainT] at h
  | Compare _ _ _ _ => simp [plainT] at h
  | _ => rfl
theorem pt_plain {a : Expr} {m : M Opnd} (ha : PE X a (tR X.K X.mg D0 W (OpdR X.K X.mg D0) m)) (h : plainT a = true) : PT X a (tB X.K X.mg D0 W (tru1 m)) :=
  pt_imp (pt_tru o_tru ha (plainT_is h X.env)) fun σ H Q q => tru1_imp q
/-- from an expression to an operand -/
theorem opd_of {n : Nat} {e : Expr} {c : C} (hc : compE n Γ e = some c) (ok : Ok Γ Φ X W) (he : PE X e (tR X.K X.mg D0 W (OutR X.K X.mg D0) (evE Φ c))) : PE X e (tR X.K X.mg D0 W (OpdR X.K X.mg D0) (opnd c (evE Φ c))) := by
  cases c with
  | slot i =>
    obtain ⟨x, pos, rfl, hi⟩ := compE_slot hc
    obtain ⟨h1, h2, h3, h4⟩ := ok.slot hi
    exact s_slotO h1 h2 h3 h4
  | _ => exact pe_imp he fun σ H Q h => opnd_imp h
theorem compE_opd {n : Nat} {e : Expr} {i : Nat} (hc : compE n Γ e = some (.slot i)) (ok : Ok Γ Φ X W) : plainT e = true := by
  obtain ⟨x, pos, rfl, _⟩ := compE_slot hc
  rfl
/-- names of builtins -/
theorem biTab_ok : (biTab.all fun p => decide (bootBuiltins p.1 = some (biV p.2)) && decide (p.1 ∈ bnames) && decide (p.2 ≠ .sortedSet) && decide (p.2 ≠ .lenSet)) = true := by decide +kernel
theorem biOf_is {x : Str} {b : Bi} (h : biOf x = some b) : bootBuiltins x = some (biV b) ∧ x ∈ bnames ∧ (b ≠ .sortedSet ∧ b ≠ .lenSet) := by
  have h1 := List.all_eq_true.mp biTab_ok (x, b) (PySem.mem_of_lookup h)
  simp only [Bool.and_eq_true, decide_eq_true_eq] at h1
  exact ⟨h1.1.1.1, h1.1.1.2, h1.1.2, h1.2⟩
theorem pe_bi {b : Bi} {x : Str} {r : List V → Hp → VK → Prop} {e : Expr} {es : List Expr} {t : TA} {p pos : Pos} (hc : CallR X (biV b) r) (hg : Gl X x) (hm : X.mg x = none) (hv : bootBuiltins x = some (biV b)) (ha : PA X (e :: es) t) (hn : x ≠ "__name__") (hdb : (x == ("__debug__" : Str)) = false)
    (he : starEach (e :: es) X.env = (false, eval e X.env) :: starEach es X.env) (hpl : (backTo pos (starEach es X.env)).any (·.1) = false) (hb : b ≠ .sortedSet ∧ b ≠ .lenSet) : PE X (.Call (.Name x p) (e :: es) [] pos) (fun σ H Q => t σ H fun vs H1 => r vs H1 Q) := by
  cases b <;> first
    | exact pe_callB hc hg hm hv ha hn hdb he hpl
    | exact pe_callTy hc hg hm hv ha hn hdb he hpl
    | exact absurd rfl hb.1
    | exact absurd rfl hb.2
end
/-! ### set(xs), xs a list of ints: turned from the kit's proof for tuples -/
section
variable {P : Program} {w : World} {A : Around} {E : Value → Shared → Prop} {s : Shared}
/-- the fresh set -/
def nset (w : World) : Obj := { cls := .type "set", dict := none, data := .set #[] 0 (.fresh 0 0 (!w.params.followText "set-order")) }
/-- the heap with it -/
def sset (w : World) (s : Shared) : Shared := { s with heap := s.heap.push (nset w) }
/-- what set(l) leaves -/
def SetDone (w : World) (s : Shared) (ns : List Int) (r : Value) (s2 : Shared) : Prop := r = .none ∧ ∃ h' tk c, s2 = { s with heap := h', toks := tk } ∧ SetR w h' s.heap.objs.size (fun j => decide (j ∈ ns)) c ∧ c ≤ ns.length ∧ ∀ b o, s.heap.get? b = some o → h'.get? b = some o
theorem set_init_list {l : Addr} {items : Array Value} (ns : List Int) (hh : A.handled = none) (hl : s.heap.IsList l items) (hit : IntsAre items.toList ns) (hb : ns.length + 1 < scanBound) :
    codeAny (model P w) A (.call (.builtin "set.__init__") ⟨[.ref s.heap.objs.size, .ref l], []⟩) (wants (SetDone w s ns) E) (sset w s) := by
  have hn : items.size = ns.length := by
    have q := IntsAre.length hit
    rwa [Array.length_toList] at q
  have hS : (s.heap.push (nset w)).get? s.heap.objs.size = some (nset w) := Heap.get?_push_size _ rfl
  have hT : Shared.TypeIs (sset w s) (.ref s.heap.objs.size) "set" := ⟨_, hS, rfl⟩
  refine codeAny_call_builtin F.called_set.init.plain F.entry_set_init (check_set_init_1 hT ?_)
  obtain ⟨ol, hol, hcl, nl, hdl⟩ := hl
  obtain ⟨ocls, odict, odata, oslots⟩ := ol
  simp only at hcl hdl
  subst hcl; subst hdl
  have hol' : (s.heap.push (nset w)).get? l = some { cls := .type "list", dict := odict, data := .seq items nl, slots := oslots } := Heap.get?_push_of_some _ hol
  have hsls := F.sub_list_set
  have hslf := F.sub_list_frozenset
  have hne : (Value.type "list" == Value.type "dict") = false := by decide
  have hl1 : (s.heap.push (nset w)).IsList l items := ⟨_, hol', rfl, nl, rfl⟩
  have hlS : l < s.heap.objs.size := Heap.lt_size hol
  have hz : (s.heap.push (nset w)).objs.size = s.heap.objs.size + 1 := Heap.size_push ..
  unfold sset
  unfold Builtin.«set.__init__» noKeywords Builtin.Frozenset.updateFrom
  generalize hPI : pyIter = PI
  wp_walk
  subst hPI
  refine wpAny_pyIter_list hl1 ?_
  refine wpAny_bind (wpAny_runValue ?_)
  have hh3 : A.in1.in1.handled = none := by simp [hh]
  have hval : ∀ (i : Nat) (v : Value), items[i]? = some v → ∃ k t, ns[i]? = some k ∧ v = .int k t := fun i v hv => by
    have hi : i < ns.length := by rw [← hn]; exact (Array.getElem?_eq_some_iff.mp hv).1
    obtain ⟨t, e⟩ := IntsAre.int_at hit i v (by rw [Array.getElem?_toList]; exact hv)
    refine ⟨ns[i], t, List.getElem?_eq_getElem hi, ?_⟩
    rw [e, List.getD_eq_getElem?_getD, List.getElem?_eq_getElem hi] <;> rfl
  have hd1 : l ≠ (s.heap.push (nset w)).objs.size := by rw [hz]; exact Nat.ne_of_lt (Nat.lt_succ_of_lt hlS)
  have hd2 : s.heap.objs.size ∉ [(s.heap.push (nset w)).objs.size, l] := by
    rw [hz]
    simp only [List.mem_cons, List.mem_singleton, List.not_mem_nil, or_false, not_or]
    exact ⟨Nat.ne_of_lt (Nat.lt_succ_self _), Nat.ne_of_gt hlS⟩

  refine set_update_ints ((Walks.list hh3 _ l hd1 items).toS) s.heap.objs.size hd2 ns hn hb hval (items.size - 0) 0 _ (by omega) (Nat.zero_le _)
    ⟨⟨_, Heap.get?_push_size _ rfl, rfl, rfl⟩, (hl1.push _)⟩ ?hS0 ?hR
  case hS0 =>
    have hget : ((s.heap.push (nset w)).push { cls := .type "list_iterator", data := .fields #[.ref l, .int 0 0] }).get? s.heap.objs.size = some (nset w) := Heap.get?_push_of_some _ hS
    exact ⟨0, Nat.le_refl 0, setR_new_at hget⟩
  intro s' c' hm hc' hS'
  obtain ⟨h', g2, d', tk', os'⟩ := s'
  have eg : g2 = s.gens := hm.gens
  have ed : d' = s.drawn := hm.drawn
  have eo : os' = s.os := hm.os
  subst eg; subst ed; subst eo
  refine wpAny_pure ?_
  show wpAny _ _ (ret Value.none) _ _ _
  rw [hn] at hc'
  refine wpAny_pure ⟨rfl, h', tk', c', rfl, hS', hc', fun b o e => ?_⟩
  have hb0 : b < s.heap.objs.size := Heap.lt_size e
  have hb2 : b ≠ (s.heap.push (nset w)).objs.size := by rw [hz]; exact Nat.ne_of_lt (Nat.lt_succ_of_lt hb0)
  exact hm.heap b o (by simp only [List.mem_cons, List.mem_singleton, List.not_mem_nil, or_false, not_or]; exact ⟨Nat.ne_of_lt hb0, hb2⟩) (Heap.get?_push_of_some _ (Heap.get?_push_of_some _ e))
theorem call_set_lst {l : Addr} {items : Array Value} (ns : List Int) {Q : Value → Shared → Prop} (hh : A.handled = none) (hl : s.heap.IsList l items) (hit : IntsAre items.toList ns) (hb : ns.length + 1 < scanBound)
    (h : ∀ (h' : Heap) (tk c : Nat), SetR w h' s.heap.objs.size (fun j => decide (j ∈ ns)) c → c ≤ ns.length → (∀ b o, s.heap.get? b = some o → h'.get? b = some o) → Q (.ref s.heap.objs.size) { s with heap := h', toks := tk }) :
    wpAny (model P w) A (call (.type "set") [.ref l]) Q E s := by
  obtain ⟨c, tl, hmro⟩ := F.called_set.mro
  have hmade := F.called_set.made
  have hsub := F.called_set.sub
  refine wpAny_call (codeAny_of_tree ?_)
  show wpAny _ _ (callAny (.type "set") _) _ _ _
  refine wpAny_pure ⟨Code.quiet_builtin _ (by decide +kernel), codeAny_builtin F.entry_type_call ?_⟩
  rw [Around.under_plain (weight_type_call_type "set" [.ref l] []) rfl]
  have h1 := F.called_set.notType
  have h2 := F.called_set.canCreate
  have hct := F.typeCall_set_1 (.ref l)
  repeat (any_goals (first | assumption | wp_step))
  refine codeAny_mono (code_set_led1 (.ref l) (E := E) (Q₁ := fun obj s1 => obj = .ref s.heap.objs.size ∧ s1 = sset w s) ⟨rfl, rfl⟩) fun r s1 hr => ?_
  cases r with
  | error e => exact hr
  | ok fl =>
    cases fl with
    | ret obj =>
      obtain ⟨rfl, rfl⟩ := hr
      have hS : (sset w s).heap.get? s.heap.objs.size = some (nset w) := Heap.get?_push_size _ rfl
      have hT : Shared.TypeIs (sset w s) (.ref s.heap.objs.size) "set" := ⟨_, hS, rfl⟩
      have hli := F.called_set.init.lookup
      have hbi := F.called_set.init.bind (.ref s.heap.objs.size)
      repeat (any_goals (first | assumption | wp_step))
      refine codeAny_mono (set_init_list (E := E) ns (by simp [hh]) hl hit hb) fun r2 s2 hr2 => ?_
      cases r2 with
      | error e => exact hr2
      | ok fl2 =>
        cases fl2 with
        | ret r =>
          obtain ⟨rfl, h', tk, c', rfl, hS', hc', hk'⟩ := hr2
          repeat (any_goals (first | assumption | wp_step))
          exact h _ _ _ hS' hc' hk'
        | _ => exact hr2.elim
    | _ => exact hr.elim
end
theorem mem_dedupI {x : Int} : ∀ {xs : List Int}, x ∈ dedupI xs ↔ x ∈ xs
  | [] => by simp [dedupI]
  | y :: ys => by
    unfold dedupI
    have ih := mem_dedupI (x := x) (xs := ys)
    split
    · rename_i h
      rw [List.mem_cons, ih]
      exact ⟨.inr, fun z => z.elim (fun e => by rw [e]; exact h) id⟩
    · rw [List.mem_cons, List.mem_cons, ih]
theorem nodup_dedupI : ∀ xs : List Int, (dedupI xs).Nodup
  | [] => List.nodup_nil
  | y :: ys => by
    unfold dedupI
    split
    · exact nodup_dedupI ys
    · rename_i h
      exact List.nodup_cons.mpr ⟨fun z => h (mem_dedupI.mp z), nodup_dedupI ys⟩
theorem lt_nodup {xs : List Int} (h : xs.Pairwise (· < ·)) : xs.Nodup := h.imp fun h => Int.ne_of_lt h
theorem sort_uniq {ns xs : List Int} (h : ns.Pairwise (· < ·)) (m : ∀ k : Int, k ∈ ns ↔ decide (k ∈ xs) = true) : ns = sortI (dedupI xs) := by
  refine sorted_unique ?_ (h.imp fun h => Int.le_of_lt h) (sortI_sorted _)
  refine List.Perm.trans ?_ (sortI_perm _).symm
  refine (List.perm_ext_iff_of_nodup (lt_nodup h) (nodup_dedupI xs)).mpr fun k => ?_
  rw [m k, mem_dedupI, decide_eq_true_eq]
section
variable {X : Cx}
def rSetOfL (K : PySem.W.Frag) (w : World) : List V → Hp → VK → Prop := fun xs H Q => ∃ (a : Addr) (ns : List Int), xs = [V.ref a] ∧ SqL K H a (ns.map V.int) ∧ ns.length + 1 < scanBound ∧
  ∀ p c, c ≤ ns.length → H p = none → Q (.ref p) (upd H p (SetO w p (fun j => decide (j ∈ ns)) c))
theorem cr_setOfL (hc : X.calm = true) : CallR X (.type "set") (rSetOfL X.K X.w) := by
  intro pins s σ H vs us Q I r h
  obtain ⟨a, ns, rfl, hs, hb, q⟩ := h
  obtain ⟨its, rv, hl, _⟩ := I.list hs
  rw [Vals.ref1 r]
  refine call_set_lst ns (I.ok.hd hc) hl.isList rv.ints hb fun h' tk c R hc' k => ?_
  exact ⟨.ref _, upd H s.heap.objs.size (SetO X.w s.heap.objs.size (fun j => decide (j ∈ ns)) c), I.laid (t' := tk) k (Nat.le_refl _) (setO_new R), rfl, q _ _ hc' (I.hok.fresh (Nat.le_refl _))⟩
theorem sset_conv {vs : List V} {H : Hp} {Q Q1 : VK} (h : rL X.K X.mg (biT .sortedSet) vs H Q) (k1 : ∀ x H2, rSortedSet X.w [x] H2 Q → Q1 x H2) : rSetOfL X.K X.w vs H Q1 := by
  obtain ⟨D, ts, hD, p, out, e, k⟩ := h
  have e : ssetT ts = some out := e
  unfold ssetT at e
  split at e
  · obtain ⟨ns, en, eo⟩ := Option.bind_eq_some_iff.mp e
    split at eo
    · rename_i hl
      cases eo
      obtain ⟨v, rfl, p1⟩ := p.one
      obtain ⟨a, ys, rfl, ha, la⟩ := p1.lst
      rw [intsT_eq en] at la
      rw [la.ints] at ha
      refine ⟨a, ns, rfl, .of ha, by unfold scanBound; omega, fun q c hc hq => k1 _ _ ⟨q, _, c, rfl, upd_same, by omega, fun ns' p' s1 s2 s3 hp' => ?_⟩⟩
      rw [sort_uniq s1 s2]
      have hn : H p' = none := by
        by_cases z : p' = q
        · rw [z]; exact hq
        · rw [upd_ne z] at hp'; exact hp'
      exact k _ _ (fun b u eb => same_upd hp' b u (same_upd hq b u eb)) ⟨p', rfl, hn, _, upd_same, RepL.of_ints _⟩
    · cases eo
  · cases e
theorem pe_sset (hc : X.calm = true) {e : Expr} {t : TA} {p p2 pos pos2 : Pos} (hg : Gl X "sorted") (hg2 : Gl X "set") (hm : X.mg "sorted" = none) (hm2 : X.mg "set" = none) (ha : PA X [e] t) (he : starEach [e] X.env = [(false, eval e X.env)]) :
    PE X (.Call (.Name "sorted" p) [.Call (.Name "set" p2) [e] [] pos2] [] pos) (fun σ H Q => t σ H fun vs H1 => rL X.K X.mg (biT .sortedSet) vs H1 Q) := by
  refine ⟨fun pins s σ H Q I h => ?_⟩
  have inner : PE X (.Call (.Name "set" p2) [e] [] pos2) (fun σ H Q1 => (t σ H fun vs H1 => rL X.K X.mg (biT .sortedSet) vs H1 Q) ∧ ∀ x H2, rSortedSet X.w [x] H2 Q → Q1 x H2) := by
    refine ⟨fun pins s σ H Q1 I h => ?_⟩
    refine wpAny_Call_Name_kw (ld_blt I hg2 hm2 (show bootBuiltins "set" = some (.type "set") by decide +kernel) ?_ (by decide) (by decide))
    exact PyProof.Rows.callWith_type1 (thn (ha.run pos2 pins s σ H _ I h.1) fun us s1 ⟨vs, H1, I1, r1, q1⟩ => cr_setOfL hc pins s1 σ H1 vs us Q1 I1 r1 (sset_conv q1 h.2)) he rfl
  exact (pe_callB (cr_sortedSet hc) hg hm (by decide +kernel) (pa_cons inner pa_nil rfl) (by decide) (by decide) rfl rfl).run pins s σ H Q I ⟨h, fun x H2 z => z⟩
end
end VL

set_option maxHeartbeats 2000000
namespace VL
open PySem PySem.Spec PyProof.Rows L2

/-! ### locks -/
def lkS (b : Bool) : Option Slot → Option Slot
  | some (some (.own, t)) => if b then some (some (.lck, t)) else some (some (.own, t))
  | x => x
def ulS (b : Bool) : Option Slot → Option Slot
  | some (some (.lck, t)) => if b then some (some (.own, t)) else some (some (.lck, t))
  | x => x
theorem lkS_false (x : Option Slot) : lkS false x = x := by
  unfold lkS; split <;> simp
theorem ulS_false (x : Option Slot) : ulS false x = x := by
  unfold ulS; split <;> simp
theorem lkS_not {b : Bool} {x : Option Slot} (h : ∀ t, x ≠ some (some (.own, t))) : lkS b x = x := by
  unfold lkS; split
  · rename_i t; exact absurd rfl (h t)
  · rfl
theorem ulS_not {b : Bool} {x : Option Slot} (h : ∀ t, x ≠ some (some (.lck, t))) : ulS b x = x := by
  unfold ulS; split
  · rename_i t; exact absurd rfl (h t)
  · rfl
theorem lock_get : ∀ (L : List Nat) (env : En) (j : Nat), (lock env L)[j]? = lkS (decide (j ∈ L)) env[j]?
  | [], env, j => by simp [lock, lkS_false]
  | i :: is, env, j => by
    unfold lock
    split
    · rename_i t e
      rw [lock_get is _ j]
      by_cases h : j = i
      · subst h
        rw [List.getElem?_set_self (get_lt e), e]
        simp [lkS]
      · rw [List.getElem?_set_ne (Ne.symm h)]
        simp [h]
    · rename_i hn
      rw [lock_get is _ j]
      by_cases h : j = i
      · subst h
        rw [lkS_not fun t z => hn t z, lkS_not fun t z => hn t z]
      · simp [h]
theorem unlock_get : ∀ (L : List Nat) (env : En) (j : Nat), (unlock env L)[j]? = ulS (decide (j ∈ L)) env[j]?
  | [], env, j => by simp [unlock, ulS_false]
  | i :: is, env, j => by
    unfold unlock
    split
    · rename_i t e
      rw [unlock_get is _ j]
      by_cases h : j = i
      · subst h
        rw [List.getElem?_set_self (get_lt e), e]
        simp [ulS]
      · rw [List.getElem?_set_ne (Ne.symm h)]
        simp [h]
    · rename_i hn
      rw [unlock_get is _ j]
      by_cases h : j = i
      · subst h
        rw [ulS_not fun t z => hn t z, ulS_not fun t z => hn t z]
      · simp [h]
theorem lkS_some {b : Bool} {x : Option Slot} {f : Fl} {t : T} (h : lkS b x = some (some (f, t))) : (x = some (some (f, t))) ∨ (x = some (some (.own, t)) ∧ f = .lck) := by
  unfold lkS at h
  split at h
  · split at h
    · cases h; exact .inr ⟨rfl, rfl⟩
    · cases h; exact .inl rfl
  · exact .inl h
theorem ulS_some {b : Bool} {x : Option Slot} {f : Fl} {t : T} (h : ulS b x = some (some (f, t))) : (x = some (some (f, t))) ∨ (x = some (some (.lck, t)) ∧ f = .own ∧ b = true) := by
  unfold ulS at h
  split at h
  · split at h
    · rename_i hb; cases h; exact .inr ⟨rfl, rfl, hb⟩
    · cases h; exact .inl rfl
  · exact .inl h
def LkOk (env : En) (L : List Nat) : Prop := ∀ i ∈ L, ∃ t, env[i]? = some (some (.own, t))
section
variable {K : PySem.W.Frag} {mg : Str → Option Value} {H H1 H' : Hp} {D0 : Addr → Prop} {env env1 env' : En} {σ σ1 σ' : L2.St} {W : WX} {L : List Nat}
theorem own_lock {a : Addr} : ownA (lock env L) σ a ↔ ownA env σ a := by
  constructor
  · rintro ⟨i, f, t, e, hf, s⟩
    rw [lock_get] at e
    rcases lkS_some e with e | ⟨e, _⟩
    · exact ⟨i, f, t, e, hf, s⟩
    · exact ⟨i, .own, t, e, .inl rfl, s⟩
  · rintro ⟨i, f, t, e, hf, s⟩
    have g := lock_get L env i
    rw [e] at g
    rcases hf with rfl | rfl
    · unfold lkS at g
      dsimp only at g
      split at g
      · exact ⟨i, .lck, t, g, .inr rfl, s⟩
      · exact ⟨i, .own, t, g, .inl rfl, s⟩
    · exact ⟨i, .lck, t, g, .inr rfl, s⟩
theorem own_unlock {a : Addr} : ownA (unlock env L) σ a ↔ ownA env σ a := by
  constructor
  · rintro ⟨i, f, t, e, hf, s⟩
    rw [unlock_get] at e
    rcases ulS_some e with e | ⟨e, _⟩
    · exact ⟨i, f, t, e, hf, s⟩
    · exact ⟨i, .lck, t, e, .inr rfl, s⟩
  · rintro ⟨i, f, t, e, hf, s⟩
    have g := unlock_get L env i
    rw [e] at g
    rcases hf with rfl | rfl
    · exact ⟨i, .own, t, g, .inl rfl, s⟩
    · unfold ulS at g
      dsimp only at g
      split at g
      · exact ⟨i, .own, t, g, .inl rfl, s⟩
      · exact ⟨i, .lck, t, g, .inr rfl, s⟩
theorem dof_lock {a : Addr} : Dof D0 (lock env L) σ a ↔ Dof D0 env σ a := ⟨fun h => h.imp id own_lock.mp, fun h => h.imp id own_lock.mpr⟩
theorem dof_unlock {a : Addr} : Dof D0 (unlock env L) σ a ↔ Dof D0 env σ a := ⟨fun h => h.imp id own_unlock.mp, fun h => h.imp id own_unlock.mpr⟩
theorem mut_lock {a : Addr} (h : mutA (lock env L) σ a) : mutA env σ a := by
  obtain ⟨i, f, t, e, hf, s⟩ := h
  rw [lock_get] at e
  rcases lkS_some e with e | ⟨e, z⟩
  · exact ⟨i, f, t, e, hf, s⟩
  · subst z; rcases hf with z | z <;> cases z
theorem par_lock {a : Addr} : parA (lock env L) σ a ↔ parA env σ a := by
  constructor
  · rintro ⟨i, f, t, e, hf, s⟩
    rw [lock_get] at e
    rcases lkS_some e with e | ⟨e, z⟩
    · exact ⟨i, f, t, e, hf, s⟩
    · subst z; rcases hf with z | z <;> cases z
  · rintro ⟨i, f, t, e, hf, s⟩
    refine ⟨i, f, t, ?_, hf, s⟩
    rw [lock_get, e]
    exact lkS_not fun u z => by
      cases z
      rcases hf with z | z <;> cases z
theorem par_unlock {a : Addr} (h : parA (unlock env L) σ a) : parA env σ a := by
  obtain ⟨i, f, t, e, hf, s⟩ := h
  rw [unlock_get] at e
  rcases ulS_some e with e | ⟨e, z, _⟩
  · exact ⟨i, f, t, e, hf, s⟩
  · subst z; rcases hf with z | z <;> cases z
theorem lock_sr : ∀ (L : List Nat) {env : En}, SR K mg D0 H env σ → SR K mg D0 H (lock env L) σ
  | [], _, R => R
  | i :: is, env, R => by
    unfold lock
    split
    · rename_i t e
      exact lock_sr is (R.flag e (.inl rfl) (.inr rfl)).1
    · exact lock_sr is R
theorem unlock_sr : ∀ (L : List Nat) {env : En}, SR K mg D0 H env σ → SR K mg D0 H (unlock env L) σ
  | [], _, R => R
  | i :: is, env, R => by
    unfold unlock
    split
    · rename_i t e
      exact unlock_sr is (R.flag e (.inr rfl) (.inl rfl)).1
    · exact unlock_sr is R
theorem step_lock : Step env σ H (lock env L) σ H := by
  refine ⟨fun _ _ h _ => h, fun a h => .inl (own_lock.mp h), fun a h => .inl (mut_lock h), fun i f t e hf => ⟨rfl, t, ?_⟩, fun _ h => h, fun a h => par_lock.mp h⟩
  rw [lock_get, e]
  exact lkS_not fun u z => by
    cases z
    rcases hf with z | z | z <;> cases z
/-- a locked stretch -/
theorem step_unlock (lk : LkOk env L) (S : Step (lock env L) σ H env' σ' H') : Step env σ H (unlock env' L) σ' H' := by
  refine ⟨fun a o h n => S.keep a o h fun z => n (mut_lock z), fun a h => (S.own a (own_unlock.mp h)).imp own_lock.mp id, fun a h => ?_, fun i f t e hf => ?_, S.dom, fun a h => par_lock.mp (S.back a (par_unlock h))⟩
  · obtain ⟨i, f, t, e, hf, s⟩ := h
    rw [unlock_get] at e
    rcases ulS_some e with e | ⟨e, _, hb⟩
    · exact (S.mu a ⟨i, f, t, e, hf, s⟩).imp mut_lock id
    · have hi : i ∈ L := by simpa using hb
      obtain ⟨t0, e0⟩ := lk i hi
      have el : (lock env L)[i]? = some (some (.lck, t0)) := by rw [lock_get, e0]; simp [lkS, hi]
      obtain ⟨s1, _⟩ := S.par i .lck t0 el (.inr (.inr rfl))
      exact .inl ⟨i, .own, t0, e0, .inl rfl, by rw [← s1]; exact s⟩
  · have el : (lock env L)[i]? = some (some (f, t)) := by
      rw [lock_get, e]
      exact lkS_not fun u z => by
        cases z
        rcases hf with z | z | z <;> cases z
    obtain ⟨s1, t', e'⟩ := S.par i f t el hf
    refine ⟨s1, t', ?_⟩
    rw [unlock_get, e']
    by_cases hi : i ∈ L
    · obtain ⟨t0, e0⟩ := lk i hi
      rw [e0] at e; cases e
      rcases hf with z | z | z <;> cases z
    · simp [hi, ulS_false]
end

/-! ### what is walked -/
section
variable (K : PySem.W.Frag) (mg : Str → Option Value)
/-- a walk over ts, from H0 on, whatever is done to what is in Mu -/
def Wk (J : L2.It) (ts : List T) (H0 : Hp) (D Mu : Addr → Prop) : Prop := ∃ (G : Hp → Prop) (Y : Nat → Hp → V → Hp → Prop), Walk J ts.length G Y ∧ (∀ H, Keep H0 H Mu → G H) ∧
  ∀ (i : Nat) (t : T) (H : Hp) (x : V) (H' : Hp) (D' : Addr → Prop), ts[i]? = some t → Keep H0 H D → (∀ a, D' a → D a ∨ H0 a = none) → D2 D' H → Y i H x H' → Same H H' ∧ Rep K mg H' D' t x
/-- a list that stands while it is walked -/
def WkL (a : Addr) (ts : List T) (H0 : Hp) (D Mu : Addr → Prop) : Prop := ∃ xs : List V, (∀ H, Keep H0 H Mu → SqL K H a xs) ∧ RepL K mg H0 D ts xs
def WV (H0 : Hp) (D Mu : Addr → Prop) (v : V) (ts : List T) : Prop :=
  (∃ a : Addr, v = .ref a ∧ WkL K mg a ts H0 D Mu) ∨ (∃ (a : Addr) (xs : List V), v = .ref a ∧ SqTD K H0 D a xs ∧ RepL K mg H0 D ts xs) ∨ ∃ s : Str, v = .str s ∧ ts = signsT s
end
section
variable {K : PySem.W.Frag} {mg : Str → Option Value} {H0 H H1 H' : Hp} {D0 D Mu : Addr → Prop} {env env1 env' : En} {σ σ1 σ' : L2.St} {W : WX} {L : List Nat} {ts us : List T}
theorem Wk.of (J : L2.It) {n : Nat} {G : Hp → Prop} {xs : List V} (w : Walk J n G (YAt xs)) (hn : ts.length = n) (g : ∀ H, Keep H0 H Mu → G H) (r : RepL K mg H0 D ts xs) : Wk K mg J ts H0 D Mu := by
  subst hn
  refine ⟨G, _, w, g, fun i t H x H' D' et k d _ y => ?_⟩
  obtain ⟨rfl, hx⟩ := y
  obtain ⟨v, hv, rv⟩ := r.get et
  rw [hx] at hv; cases hv
  exact ⟨Same.refl _, rv.mono k d⟩
theorem WkL.wk {a : Addr} (h : WkL K mg a ts H0 D Mu) : Wk K mg (Itl K a) ts H0 D Mu := by
  obtain ⟨xs, g, r⟩ := h
  exact .of _ walk_list r.length g r
theorem SqTD.keep {a : Addr} {xs : List V} (hm : ∀ b, Mu b → D b) (h : SqTD K H0 D a xs) {H : Hp} (k : Keep H0 H Mu) : SqT K H a xs :=
  (SqTD.mono (D' := D) (fun a o e n => k a o e fun z => n (hm a z)) (fun _ h => .inl h) h).sq
theorem wk_tup {a : Addr} {xs : List V} (hm : ∀ b, Mu b → D b) (h : SqTD K H0 D a xs) (r : RepL K mg H0 D ts xs) : Wk K mg (Itt K a) ts H0 D Mu :=
  .of _ walk_tup r.length (fun H k => h.keep hm k) r
theorem wk_str {s : Str} : Wk K mg (Its s) (signsT s) H0 D Mu := by
  have hl : (signsT s).length = s.cps.size := by simp [signsT]
  refine ⟨fun _ => True, _, by rw [hl]; exact walk_str, fun _ _ => trivial, fun i t H x H' D' et k d _ y => ?_⟩
  obtain ⟨rfl, c, hc, rfl⟩ := y
  refine ⟨Same.refl _, ?_⟩
  have : (signsT s)[i]? = some (T.str ⟨#[c]⟩) := by
    unfold signsT
    rw [List.getElem?_map, Array.getElem?_toList, hc]
    rfl
  rw [this] at et; cases et
  exact .str _
theorem wk_range {lo hi : Int} : Wk K mg (Itr lo (hi - lo).toNat) (rangeT lo hi) H0 D Mu := by
  have hl : (rangeT lo hi).length = (hi - lo).toNat := by simp [rangeT]
  refine ⟨fun _ => True, _, by rw [hl]; exact walk_range, fun _ _ => trivial, fun i t H x H' D' et k d _ y => ?_⟩
  obtain ⟨rfl, rfl⟩ := y
  refine ⟨Same.refl _, ?_⟩
  unfold rangeT at et
  rw [List.getElem?_map] at et
  obtain ⟨j, hj, rfl⟩ := Option.map_eq_some_iff.mp et
  obtain ⟨h1, h2⟩ := List.getElem?_eq_some_iff.mp hj
  rw [List.getElem_range] at h2
  subst h2
  exact .int _
theorem wk_rangeS {lo hi st : Int} {n : Nat} (hn : n = ((hi - lo + st - 1) / st).toNat) : Wk K mg (Itc lo st n) (rangeS lo hi st) H0 D Mu := by
  have hl : (rangeS lo hi st).length = n := by simp [rangeS, hn]
  refine ⟨fun _ => True, _, by rw [hl]; exact walk_rangeC, fun _ _ => trivial, fun i t H x H' D' et k d _ y => ?_⟩
  obtain ⟨rfl, rfl⟩ := y
  refine ⟨Same.refl _, ?_⟩
  unfold rangeS at et
  rw [List.getElem?_map] at et
  obtain ⟨j, hj, rfl⟩ := Option.map_eq_some_iff.mp et
  obtain ⟨h1, h2⟩ := List.getElem?_eq_some_iff.mp hj
  rw [List.getElem_range] at h2
  subst h2
  exact .int _
/-- a new pair -/
theorem rep_pair {t u : T} {x y : V} {p : Addr} {D' : Addr → Prop} (hp : H p = none) (d2 : D2 D' H) (h1 : Rep K mg H D' t x) (h2 : Rep K mg H D' u y) : Same H (upd H p (.tup [x, y])) ∧ Rep K mg (upd H p (.tup [x, y])) D' (.tup [t, u]) (.ref p) :=
  ⟨same_upd hp, .tup (.inl ⟨.inl (upd_same), d2 p hp⟩) (.cons (h1.grow hp) (.cons (h2.grow hp) .nil))⟩
theorem enumT_get {i : Nat} {t : T} (h : (enumT ts)[i]? = some t) : ∃ u, ts[i]? = some u ∧ t = .tup [.int i, u] := by
  unfold enumT at h
  rw [List.getElem?_mapIdx] at h
  obtain ⟨u, hu, rfl⟩ := Option.map_eq_some_iff.mp h
  exact ⟨u, hu, rfl⟩
theorem WkL.enum {a : Addr} (h : WkL K mg a ts H0 D Mu) : Wk K mg (Ite K a) (enumT ts) H0 D Mu := by
  obtain ⟨xs, g, r⟩ := h
  have hl : (enumT ts).length = xs.length := by simp [enumT, r.length]
  refine ⟨_, _, by rw [hl]; exact walk_enum, g, fun i t H x H' D' et k d d2 y => ?_⟩
  obtain ⟨p, v, w, rfl, hp, rfl, e1, e2⟩ := y
  obtain ⟨u, hu, rfl⟩ := enumT_get et
  obtain ⟨w', hw, rw'⟩ := r.get hu
  have e2 : xs[i]? = some w := e2
  rw [e2] at hw; cases hw
  cases e1
  exact rep_pair hp d2 (.int _) (rw'.mono k d)
theorem zipT_get : ∀ {ts us : List T} {i : Nat} {t : T}, (zipT ts us)[i]? = some t → ∃ u w, ts[i]? = some u ∧ us[i]? = some w ∧ t = .tup [u, w]
  | [], _, _, _, h => by simp [zipT] at h
  | _ :: _, [], _, _, h => by simp [zipT] at h
  | x :: xs, y :: ys, 0, t, h => by simp [zipT] at h; exact ⟨x, y, rfl, rfl, h.symm⟩
  | x :: xs, y :: ys, i + 1, t, h => by simpa using zipT_get (ts := xs) (us := ys) (i := i) (by simpa [zipT] using h)
theorem zipT_length : ∀ ts us : List T, (zipT ts us).length = min ts.length us.length
  | [], _ => by simp [zipT]
  | _ :: _, [] => by simp [zipT]
  | x :: xs, y :: ys => by simp [zipT, zipT_length xs ys]
theorem WkL.zip {a b : Addr} (h : WkL K mg a ts H0 D Mu) (h' : WkL K mg b us H0 D Mu) : Wk K mg (Itz K a b) (zipT ts us) H0 D Mu := by
  obtain ⟨xs, g, r⟩ := h
  obtain ⟨ys, g', r'⟩ := h'
  refine ⟨_, _, walk_zip (xs := xs) (ys := ys) (by rw [zipT_length, r.length, r'.length]), fun H k => ⟨g H k, g' H k⟩, fun i t H x H' D' et k d d2 y => ?_⟩
  obtain ⟨p, v, w, rfl, hp, rfl, e1, e2⟩ := y
  obtain ⟨u, u', hu, hu', rfl⟩ := zipT_get et
  obtain ⟨v', hv, rv⟩ := r.get hu
  obtain ⟨w', hw, rw'⟩ := r'.get hu'
  have e1 : xs[i]? = some v := e1
  have e2 : ys[i]? = some w := e2
  rw [e1] at hv; cases hv
  rw [e2] at hw; cases hw
  exact rep_pair hp d2 (rv.mono k d) (rw'.mono k d)
def lstT : T → Bool
  | .lst _ => true
  | .scr _ => true
  | _ => false
theorem walkT_is {t : T} {v : V} (h : walkT t = some ts) (hm : ∀ b, Mu b → D b) (r : Rep K mg H0 D t v) : WV K mg H0 D Mu v ts ∧ (lstT t = true → ∃ a : Addr, v = .ref a ∧ WkL K mg a ts H0 D Mu) := by
  cases r with
  | @tup us xs a q l => cases h; exact ⟨.inr (.inl ⟨a, xs, rfl, q, l⟩), fun z => nomatch z⟩
  | @lst us xs a q n l => cases h; exact ⟨.inl ⟨a, rfl, xs, fun H k => .inl (.inl (k a _ q fun z => n (hm a z))), l⟩, fun _ => ⟨a, rfl, xs, fun H k => .inl (.inl (k a _ q fun z => n (hm a z))), l⟩⟩
  | @scr ns a q =>
    cases h
    exact ⟨.inl ⟨a, rfl, ns.map V.int, fun H k => (SqLD.mono (D' := D) (fun a o e n => k a o e fun z => n (hm a z)) (fun _ h => .inl h) q).sq, RepL.of_ints ns⟩,
      fun _ => ⟨a, rfl, ns.map V.int, fun H k => (SqLD.mono (D' := D) (fun a o e n => k a o e fun z => n (hm a z)) (fun _ h => .inl h) q).sq, RepL.of_ints ns⟩⟩
  | str s =>
    have h : (if s.length ≤ LIM then some (signsT s) else none) = some ts := h
    split at h
    · cases h; exact ⟨.inr (.inr ⟨_, rfl, rfl⟩), fun z => nomatch z⟩
    · cases h
  | _ => cases h
end
/-! ### enumerate over a tuple -/
set_option maxHeartbeats 4000000 in
theorem meets_enumT (l : Addr) (items : Array Value) (n : Nat) (dct : Option Addr) (sl : Array (Option Value)) :
    Meets (Builtin.«enumerate.__new__» ⟨[.type "enumerate", .ref l], []⟩) (fun _ R s => s.heap.get? l = some { cls := .type "tuple", dict := dct, data := .seq items n, slots := sl } ∧
      R (.ok (.ret (.ref (s.heap.push { cls := .type "tuple_iterator", data := .fields #[.ref l, .int 0 0] }).objs.size)))
        { s with heap := (s.heap.push { cls := .type "tuple_iterator", data := .fields #[.ref l, .int 0 0] }).push { cls := .type "enumerate", data := .fields #[.none, .bool false, .ref s.heap.objs.size, rawInt 0, .none, .none] } }) :=
  .of_wp fun prog w A R s h => by
    obtain ⟨hp, g, d, tk, os⟩ := s; obtain ⟨hl, h⟩ := h
    have hsub := sub_enumerate
    have hL : Heap.IsTuple (Shared.heap ⟨hp, g, d, tk, os⟩) l items := ⟨_, hl, rfl, n, rfl⟩
    wp_walk using AutoSeq1.wpAny_loadPart' hl
    refine wpAny_stack_any fun st => wpAny_pure ?_
    split
    · rename_i c _ _ _ _ _
      cases (c == Value.type "enumerate")
      · wp_walk using AutoSeq1.wpAny_loadPart' hl, wpAny_pyIter_tuple hL
        exact ⟨_, rfl, h⟩
      · wp_walk using AutoSeq1.wpAny_loadPart' hl, wpAny_pyIter_tuple hL
        exact ⟨_, rfl, h⟩
    · wp_walk using AutoSeq1.wpAny_loadPart' hl, wpAny_pyIter_tuple hL
      exact ⟨_, rfl, h⟩
section
variable {prog : Program} {w : World} {A : Around} {E : Value → Shared → Prop} {s : Shared}
theorem call_enumT {l : Addr} {items : Array Value} {Q : Value → Shared → Prop} (hL : s.heap.IsTuple l items)
    (h : ∀ h', IsEnum h' (s.heap.objs.size + 1) s.heap.objs.size 0 .none → h'.IsTupleIter s.heap.objs.size l 0 → h'.objs.size = s.heap.objs.size + 2 →
      (∀ b o, s.heap.get? b = some o → h'.get? b = some o) → Q (.ref (s.heap.objs.size + 1)) { s with heap := h' }) :
    wpAny (model prog w) A (call (.type "enumerate") [.ref l]) Q E s := by
  obtain ⟨⟨c, dct, dt, sl⟩, hl, hc, n, hd⟩ := hL
  replace hc : c = .type "tuple" := hc
  replace hd : dt = .seq items n := hd
  subst hc hd
  refine callType_new F.called_enumerate (by decide) (F.typeCall_enumerate_1 _) (F.newCall_enumerate_1 _) (fun obj => F.args_object_init_2 obj _) F.entry_enumerate_new
    (meets_enumT l items n dct sl) ⟨hl, ?_⟩
  have hz : (s.heap.push { cls := .type "tuple_iterator", data := .fields #[.ref l, .int 0 0] }).objs.size = s.heap.objs.size + 1 := Heap.size_push ..
  show _ ∧ _
  rw [hz]
  have he : IsEnum ((s.heap.push { cls := .type "tuple_iterator", data := .fields #[.ref l, .int 0 0] }).push
      { cls := .type "enumerate", data := .fields #[.none, .bool false, .ref s.heap.objs.size, rawInt 0, .none, .none] }) (s.heap.objs.size + 1) s.heap.objs.size 0 .none := by
    have := Heap.get?_push_size (s.heap.push { cls := .type "tuple_iterator", data := .fields #[.ref l, .int 0 0] })
      (o := { cls := .type "enumerate", data := .fields #[.none, .bool false, .ref s.heap.objs.size, rawInt 0, .none, .none] }) rfl
    rw [hz] at this; exact this
  refine ⟨⟨_, he, rfl⟩, h _ he ⟨_, Heap.get?_push_of_some _ (Heap.get?_push_size _ rfl), rfl, rfl⟩ (by rw [Heap.size_push, hz]) fun b o y => Heap.get?_push_of_some _ (Heap.get?_push_of_some _ y)⟩
end
/-- the tuple at a, each item in a new pair -/
def IteT (K : PySem.W.Frag) (a : Addr) : L2.It :=
  ⟨fun i H => ∃ (xs : List V) (x : V), SqT K H a xs ∧ xs[i]? = some x, fun i H v H' => ∃ T x, v = .ref T ∧ H T = none ∧ H' = upd H T (.tup [.int (i : Nat), x]) ∧ ∀ xs, SqT K H a xs → xs[i]? = some x, fun i H => ∃ xs : List V, SqT K H a xs ∧ xs.length ≤ i⟩
theorem turn_enumT {P : Program} {w : World} {K : PySem.W.Frag} {elts : List Expr} {kk : Nat} {tpos : Pos} (a e it : Addr) :
    Turn P w K (.Tuple elts kk tpos) (IteT K a) [e, it] e (fun i h => (∃ old, IsEnum h e it ((i : Nat) : Int) old) ∧ h.IsTupleIter it a i ∧ e ≠ it ∧ a ≠ it ∧ e ≠ a) where
  mem := by simp
  obj := fun i h st b hb => by
    obtain ⟨⟨old, he⟩, ⟨o, ho, hc, hd⟩, _⟩ := st
    have e' : b = e ∨ b = it := by simpa using hb
    rcases e' with z | z
    · rw [z]; exact ⟨_, he, fun v q => nomatch q⟩
    · rw [z]; exact ⟨o, ho, fun v q => by rw [hd] at q; cases q⟩
  keep := fun i h h' st k => let ⟨⟨old, he⟩, hi, hne⟩ := st; ⟨⟨old, k e (by simp) _ he⟩, hi.at fun o q => k it (by simp) o q, hne⟩
  item := by
    intro X hP hw hK hc i pins s σ H E I hf st hg
    subst hP hw hK
    obtain ⟨⟨old, he⟩, hit, hne, hna, hea⟩ := st
    obtain ⟨xs, x, hq, hx⟩ := hg
    obtain ⟨its, rv, p, hz⟩ := I.tuple hq
    obtain ⟨u, hu, ru⟩ := rv.get hx
    have hel : e < s.heap.objs.size := Heap.lt_size he
    have hil : it < s.heap.objs.size := by obtain ⟨_, q, _⟩ := hit; exact Heap.lt_size q
    have D := Draws.tuple (prog := X.prog) (w := X.w) (A := X.A.in1) (show X.A.in1.handled = none from I.ok.hd hc) it a hna its.toArray
    refine wpAny_pyNext_enum_itemD (i := i) D he ⟨hit, p⟩ ?_ hne (by simp [hne, hea]) fun y h' tk hy ho hit' hT hsz hk => ?_
    · have := (List.getElem?_eq_some_iff.mp hu).1
      simpa using this
    have hy : y = u := by
      have e1 : its.toArray[i]? = some u := by simpa using hu
      have hy : its.toArray[i]? = some y := hy
      rw [e1] at hy; cases hy; rfl
    subst hy
    refine ⟨_, rfl, wpAny_letOwnedTupleGo_enum (s := { s with heap := h', toks := tk + 1 }) ho fun h'' he' sb => ?_⟩
    have hT2 : h''.get? s.heap.objs.size = some { cls := .type "tuple", data := .seq #[.int i tk, y] } := (sb.2 _ (Nat.ne_of_gt hel)).trans hT
    have new : ObjOk X.prog X.w (upd H s.heap.objs.size (.tup [.int (i : Nat), x])) h'' s.heap.objs.size (.tup [.int (i : Nat), x]) :=
      ⟨by show 2 ≤ sizeLine; decide, [.int i tk, y], .cons ⟨_, rfl⟩ (.cons ru .nil), ⟨_, hT2, rfl, _, rfl⟩⟩
    have I1 : Inv X pins σ (upd H s.heap.objs.size (.tup [.int (i : Nat), x])) { s with heap := h'', toks := tk + 1 } :=
      I.turnedNew (ch := [e, it]) (fun b ob hb q => (sb.2 b (fun z => hb (by simp [z]))).trans (hk b ob (fun z => hb (by simp [z])) (fun z => hb (by simp [z])) q)) hf (Nat.le_refl _) new
    refine ⟨.ref s.heap.objs.size, _, I1, rfl, ⟨_, x, rfl, I.hok.fresh (Nat.le_refl _), rfl, fun ys hy => by rw [I.tuple_inj hy hq]; exact hx⟩, ⟨⟨y, ?_⟩, hit'.1.at fun o q => (sb.2 it (Ne.symm hne)).trans q, hne, hna, hea⟩, fun b hb => ?_⟩
    · have e1 : ((i + 1 : Nat) : Int) = (i : Int) + 1 := by omega
      rw [e1]; exact he'
    · have hb' : b < s.heap.objs.size := by
        have e' : b = e ∨ b = it := by simpa using hb
        rcases e' with z | z
        · rw [z]; exact hel
        · rw [z]; exact hil
      rw [upd_ne (Nat.ne_of_lt hb')]
      exact (hf b hb).1
  done := by
    intro X hP hw hK hc i pins s σ H E I hf st hg
    subst hP hw hK
    obtain ⟨⟨old, he⟩, hit, hne, hna, hea⟩ := st
    obtain ⟨xs, hq, hx⟩ := hg
    obtain ⟨its, rv, p, hz⟩ := I.tuple hq
    obtain ⟨f0, f1, f2, f3, f4, f5⟩ := hf it (by simp)
    have hl := rv.length
    have hn : its.toArray[i]? = none := by simp; omega
    have D : Draws X.prog X.w X.A.in1 it [it, a] i (fun _ _ => True) (fun j h => j = i ∧ h.IsTupleIter it a j ∧ h.IsTuple a its.toArray) :=
      { live := fun _ _ st => let ⟨o, ho, _⟩ := st.2.1; ⟨o, ho⟩
        frame := fun _ _ _ st hk => ⟨st.1, st.2.1.at fun o e => hk it (by simp) o e, st.2.2.at fun o e => hk a (by simp) o e⟩
        item := fun j s Q E hi st hQ => absurd st.1 (Nat.ne_of_lt hi)
        done := fun s Q E st hE => wpAny_nextOf_tuple_end (show X.A.in1.handled = none from I.ok.hd hc) st.2.1 st.2.2 hn hE }
    exact wpAny_pyNext_enum_endD D he ⟨rfl, hit, p⟩ fun h' eb => ⟨rfl, I.turned (t' := s.toks) (fun b o hb q => eb b o hb q) f0 f1 f3 f4 f5⟩
  self := fun A i s Q E st h => let ⟨⟨_, he⟩, _⟩ := st; wpAny_pyIter_enum he h
def iEnumA (K : PySem.W.Frag) (ta : TA) : TI := fun σ H R => ta σ H fun vs H1 => ∃ a xs, vs = [.ref a] ∧ ((SqL K H1 a xs ∧ R (Ite K a) H1) ∨ (SqT K H1 a xs ∧ R (IteT K a) H1))
theorem pi_enumA {X : Cx} {e : Expr} {ta : TA} {p pos tpos : Pos} {elts : List Expr} {kk : Nat} (hg : Gl X "enumerate") (hm : X.mg "enumerate" = none) (ha : PA X [e] ta) (hs : starEach [e] X.env = [(false, eval e X.env)] := by rfl) :
    PI X (.Tuple elts kk tpos) (.Call (.Name "enumerate" p) [e] [] pos) (iEnumA X.K ta) := by
  refine ⟨fun pins s σ H R I h => ?_⟩
  refine Call_ (ld_blt I hg hm boot_enumerate (PyProof.Rows.callWith_type1 (thn (ha.run pos pins s σ H _ I h) fun us s1 ⟨vs, H1, I1, r1, q1⟩ => ?_) hs rfl))
  obtain ⟨a, xs, ex, q1⟩ := q1
  subst ex
  cases r1 with
  | cons r rr =>
    cases rr
    cases r
    have fresh : ∀ b, b ∈ [s1.heap.objs.size + 1, s1.heap.objs.size] → FpOk X pins H1 b := fun b hb => by
      have e' : b = s1.heap.objs.size + 1 ∨ b = s1.heap.objs.size := by simpa using hb
      have hle : s1.heap.objs.size ≤ b := by
        rcases e' with z | z
        · rw [z]; exact Nat.le_add_right _ _
        · rw [z]; exact Nat.le_refl _
      exact I1.fpOk hle (I1.hok.fresh hle)
    rcases q1 with ⟨hq, q⟩ | ⟨hq, q⟩
    · obtain ⟨its, rv, p', hz⟩ := I1.list hq
      refine call_enumerate_list p'.isList fun h' he hit hsz hk => wpAny_pyIter_enum he ?_
      have I2 : Inv X pins σ H1 { s1 with heap := h' } := I1.kept (t' := s1.toks) hk
      exact ⟨s1.heap.objs.size + 1, [s1.heap.objs.size + 1, s1.heap.objs.size], _, _, H1, rfl, I2, turn_enum a (s1.heap.objs.size + 1) s1.heap.objs.size, ⟨⟨.none, he⟩, hit, Nat.succ_ne_self _⟩, fresh, q⟩
    · obtain ⟨its, rv, p', hz⟩ := I1.tuple hq
      have ha : a < s1.heap.objs.size := by obtain ⟨o, ho, _⟩ := (show s1.heap.IsTuple a its.toArray from p'); exact Heap.lt_size ho
      refine call_enumT (show s1.heap.IsTuple a its.toArray from p') fun h' he hit hsz hk => wpAny_pyIter_enum he ?_
      have I2 : Inv X pins σ H1 { s1 with heap := h' } := I1.kept (t' := s1.toks) hk
      exact ⟨s1.heap.objs.size + 1, [s1.heap.objs.size + 1, s1.heap.objs.size], _, _, H1, rfl, I2, turn_enumT a (s1.heap.objs.size + 1) s1.heap.objs.size, ⟨⟨.none, he⟩, hit, Nat.succ_ne_self _, Nat.ne_of_lt ha, Nat.ne_of_gt (Nat.lt_succ_of_lt ha)⟩, fresh, q⟩
section
variable {K : PySem.W.Frag} {a : Addr} {xs ys : List V} {b : Addr}
theorem walk_enumT : Walk (IteT K a) xs.length (fun H => SqT K H a xs) (YPair (fun i => some (.int (i : Nat))) (fun i => xs[i]?)) := by
  refine ⟨fun i _ hi q => ⟨xs, xs[i], q, by simp [hi]⟩, fun _ q => ⟨xs, q, Nat.le_refl _⟩, fun i H v H' _ q y => ?_⟩
  obtain ⟨T, x, h1, h2, h3, h4⟩ := y
  exact ⟨T, .int (i : Nat), x, h1, h2, h3, rfl, h4 xs q⟩
end

section
variable {K : PySem.W.Frag} {mg : Str → Option Value} {H0 : Hp} {D Mu : Addr → Prop} {ts : List T}
theorem wk_enumT {a : Addr} {xs : List V} (hm : ∀ b, Mu b → D b) (h : SqTD K H0 D a xs) (r : RepL K mg H0 D ts xs) : Wk K mg (IteT K a) (enumT ts) H0 D Mu := by
  have hl : (enumT ts).length = xs.length := by simp [enumT, r.length]
  refine ⟨_, _, by rw [hl]; exact walk_enumT, fun H k => h.keep hm k, fun i t H x H' D' et k d d2 y => ?_⟩
  obtain ⟨p, v, w, rfl, hp, rfl, e1, e2⟩ := y
  obtain ⟨u, hu, rfl⟩ := enumT_get et
  obtain ⟨w', hw, rw'⟩ := r.get hu
  have e2 : xs[i]? = some w := e2
  rw [e2] at hw; cases hw
  cases e1
  exact rep_pair hp d2 (.int _) (rw'.mono k d)
end
end VL

set_option maxHeartbeats 2000000
namespace VL
open PySem PySem.Spec PyProof.Rows L2

/-! ### an iterator over what comes -/
def itV (K : PySem.W.Frag) (x : V) (H1 : Hp) (R : L2.It → Hp → Prop) : Prop := (∃ a : Addr, x = .ref a ∧ (∃ xs, SqL K H1 a xs) ∧ R (Itl K a) H1) ∨ (∃ a : Addr, x = .ref a ∧ (∃ xs, SqT K H1 a xs) ∧ R (Itt K a) H1) ∨ ∃ s : Str, x = .str s ∧ R (Its s) H1
theorem pi_any {X : Cx} {tg l : Expr} {tl : TE} (hl : PE X l tl) : PI X tg l (fun σ H R => tl σ H fun x H1 => itV X.K x H1 R) := by
  refine ⟨fun pins s σ H R I h => ?_⟩
  refine thn (hl.run pins s σ H _ I h) fun v s1 ⟨x, H1, I1, r1, q1⟩ => ?_
  rcases q1 with ⟨a, rfl, ⟨xs, hq⟩, q⟩ | ⟨a, rfl, ⟨xs, hq⟩, q⟩ | ⟨z, rfl, q⟩
  · cases r1
    obtain ⟨its, rv, p, hz⟩ := I1.list hq
    exact wpAny_pyIter_list p.isList (pi_one (tk := s1.toks) I1 _ (turn_list a _) ⟨_, Heap.get?_push_size _ rfl, rfl, rfl⟩ q)
  · cases r1
    obtain ⟨its, rv, p, hz⟩ := I1.tuple hq
    exact wpAny_pyIter_tuple (show s1.heap.IsTuple a its.toArray from p) (pi_one (tk := s1.toks) I1 _ (turn_tuple a _) ⟨_, Heap.get?_push_size _ rfl, rfl, rfl⟩ q)
  · obtain ⟨t, rfl⟩ := r1
    cases ha : z.cps.all (· < 128)
    · exact wpAny_pyIter_wide ha (pi_one (tk := s1.toks) I1 _ (turn_str _ z t "str_iterator" (.inr rfl)) ⟨_, Heap.get?_push_size _ rfl, rfl, rfl⟩ q)
    · exact wpAny_pyIter_ascii ha (pi_one (tk := s1.toks) I1 _ (turn_str _ z t "str_ascii_iterator" (.inl rfl)) ⟨_, Heap.get?_push_size _ rfl, rfl, rfl⟩ q)

section
variable (K : PySem.W.Frag) (mg : Str → Option Value)
def PI' (D0 : Addr → Prop) (W : WX) (env : En) (σ : L2.St) (H : Hp) (R : L2.It → Hp → Prop) : Res (List T × List Nat) → Prop
  | .ok w env' => ∀ J H', Step env σ H env' σ H' → SR K mg D0 H' env' σ → LkOk env' w.2 → Wk K mg J w.1 H' (Dof D0 env' σ) (mutA (lock env' w.2) σ) → R J H'
  | .exc x env' => XPost K mg D0 W env σ H x env'
  | .stuck => False
def tI (D0 : Addr → Prop) (W : WX) (m : M (List T × List Nat)) : TI := fun σ H R => ∃ env, SR K mg D0 H env σ ∧ PI' K mg D0 W env σ H R (m env)
/-- behind a statement or a target: an exception -/
def XPostS (D0 : Addr → Prop) (W : WX) (env : En) (σ : L2.St) (H : Hp) (x : T) (env' : En) : Prop :=
  ∀ cls d σ' H', Step env σ H env' σ' H' → SR K mg D0 H' env' σ' → ExcRep K mg H' (Dof D0 env' σ') x cls d → W cls d σ' H'
def PG' (D0 : Addr → Prop) (W : WX) (sl : List Nat) (env : En) (σ : L2.St) (H : Hp) (Q : L2.St → Hp → Prop) : Res Unit → Prop
  | .ok _ env' => ∀ σ' H', Step env σ H env' σ' H' → SR K mg D0 H' env' σ' → (σ'.length = σ.length ∧ ∀ i, i ∉ sl → σ'[i]? = σ[i]?) → Q σ' H'
  | .exc x env' => XPostS K mg D0 W env σ H x env'
  | .stuck => False
def tG (D0 : Addr → Prop) (W : WX) (sl : List Nat) (f : T → M Unit) : TG := fun v σ H Q => ∃ env t, SR K mg D0 H env σ ∧ Rep K mg H (Dof D0 env σ) t v ∧ PG' K mg D0 W sl env σ H Q (f t env)
def tGs (D0 : Addr → Prop) (W : WX) (sl : List Nat) (f : List T → M Unit) : TGs := fun v σ H Q => ∃ env t, SR K mg D0 H env σ ∧ RepL K mg H (Dof D0 env σ) t v ∧ PG' K mg D0 W sl env σ H Q (f t env)
end
theorem pi_imp {X : Cx} {tg e : Expr} {t t' : TI} (h : PI X tg e t) (i : ∀ σ H Q, t' σ H Q → t σ H Q) : PI X tg e t' := ⟨fun pins s σ H Q I hw => h.run pins s σ H Q I (i σ H Q hw)⟩
theorem pg_imp {X : Cx} {e : Expr} {t t' : TG} (h : PG X e t) (i : ∀ v σ H Q, t' v σ H Q → t v σ H Q) : PG X e t' := ⟨fun pins s σ H v u Q I r hw => h.run pins s σ H v u Q I r (i v σ H Q hw)⟩
theorem pgs_imp {X : Cx} {e : List Expr} {t t' : TGs} (h : PGs X e t) (i : ∀ v σ H Q, t' v σ H Q → t v σ H Q) : PGs X e t' := ⟨fun pins s σ H v u Q I r hw => h.run pins s σ H v u Q I r (i v σ H Q hw)⟩
section
variable {K : PySem.W.Frag} {mg : Str → Option Value} {H0 H H1 H' : Hp} {D0 D Mu Mu' : Addr → Prop} {env env1 env' : En} {σ σ1 σ' : L2.St} {W : WX} {L L' : List Nat} {ts us : List T}
theorem WkL.mono {a : Addr} (h : WkL K mg a ts H0 D Mu) (m : ∀ b, Mu' b → Mu b) : WkL K mg a ts H0 D Mu' := by
  obtain ⟨xs, g, r⟩ := h
  exact ⟨xs, fun H k => g H fun b o e n => k b o e fun z => n (m b z), r⟩
theorem mut_more {a : Addr} (hL : ∀ i, i ∈ L → i ∈ L') (h : mutA (lock env L') σ a) : mutA (lock env L) σ a := by
  obtain ⟨i, f, t, e, hf, s⟩ := h
  refine ⟨i, f, t, ?_, hf, s⟩
  rw [lock_get] at e ⊢
  rcases lkS_some e with z | ⟨_, z⟩
  · by_cases hi : i ∈ L
    · rw [z]
      rw [z] at e
      have := hL i hi
      rcases hf with rfl | rfl
      · simp [lkS, this] at e
      · simp [lkS]
    · simp [hi, lkS_false, z]
  · subst z; rcases hf with z | z <;> cases z
theorem walkO_is {o : Opnd} {v : V} {Ha : Hp} (R : SR K mg D0 H env σ) (ho : OpdR K mg D0 o v Ha env σ H) (e : walkO env o = some (ts, L)) : LkOk env L ∧ WV K mg H (Dof D0 env σ) (mutA (lock env L) σ) v ts ∧ (lstO env o = true → ∃ a : Addr, v = .ref a ∧ WkL K mg a ts H (Dof D0 env σ) (mutA (lock env L) σ)) := by
  cases o with
  | val t =>
    obtain ⟨xs, hx, z⟩ := Option.map_eq_some_iff.mp e
    cases z
    obtain ⟨w1, w2⟩ := walkT_is (mg := mg) (D := Dof D0 env σ) (Mu := mutA (lock env []) σ) hx (fun b hb => R.mut hb) ho
    exact ⟨fun i hi => absurd hi (by simp), w1, fun hl => w2 (by
      unfold lstO opT at hl
      dsimp only at hl
      split at hl
      · rename_i z; cases z; rfl
      · rename_i z; cases z; rfl
      · cases hl)⟩
  | slot i =>
    have sv : σ[i]? = some (some v) := ho
    unfold walkO at e
    dsimp only at e
    split at e
    · rename_i f t ei
      split at e
      · cases e
      · rename_i hio
        obtain ⟨xs, hx, z⟩ := Option.map_eq_some_iff.mp e
        cases z
        by_cases hf : f = .sh
        · subst hf
          obtain ⟨w, sw, r⟩ := R.sh i _ ei
          rw [sv] at sw; cases sw
          obtain ⟨w1, w2⟩ := walkT_is (mg := mg) (D := Dof D0 env σ) (Mu := mutA (lock env []) σ) hx (fun b hb => R.mut hb) r
          exact ⟨fun j hj => absurd hj (by simp), w1, fun hl => w2 (by
            unfold lstO opT at hl
            dsimp only at hl
            rw [ei] at hl
            dsimp only at hl
            split at hl
            · rename_i z; cases z; rfl
            · rename_i z; cases z; rfl
            · cases hl)⟩
        · obtain ⟨a, sa, r, _⟩ := R.top i f _ ei hf
          rw [sv] at sa; cases sa
          have lk : LkOk env (if f = .own then [i] else []) := fun j hj => by
            split at hj
            · rename_i hh; subst hh
              have : j = i := by simpa using hj
              subst this
              exact ⟨t, ei⟩
            · exact absurd hj (by simp)
          have nm : ¬ mutA (lock env (if f = .own then [i] else [])) σ a := fun ⟨j, g, u, ej, hg, sj⟩ => by
            rw [lock_get] at ej
            rcases lkS_some ej with z | ⟨_, z⟩
            · have hij := R.inj j i g f u t a z ei (by rcases hg with rfl | rfl <;> decide) hf sj sv
              subst hij
              rw [ei] at z; cases z
              rcases hg with rfl | rfl
              · rw [ei] at ej; simp [lkS] at ej
              · exact hio rfl
            · subst z; rcases hg with z | z <;> cases z
          refine ⟨lk, ?_⟩
          cases t with
          | lst ws =>
            cases hx
            obtain ⟨xs, h1, h2⟩ := r
            exact ⟨.inl ⟨a, rfl, xs, fun H k => .inl (.inl (k a _ h1 nm)), h2⟩, fun _ => ⟨a, rfl, xs, fun H k => .inl (.inl (k a _ h1 nm)), h2⟩⟩
          | dct _ _ => cases hx
          | dtt _ _ => cases hx
          | _ => exact r.elim
    · cases e
theorem WV.it {v : V} {R : L2.It → Hp → Prop} (hm : ∀ b, Mu b → D b) (h : WV K mg H D Mu v ts) (k : ∀ J, Wk K mg J ts H D Mu → R J H) : itV K v H R := by
  rcases h with ⟨a, rfl, w⟩ | ⟨a, xs, rfl, q, r⟩ | ⟨s, rfl, rfl⟩
  · obtain ⟨xs, g, r⟩ := id w
    exact .inl ⟨a, rfl, ⟨xs, g H fun _ _ h _ => h⟩, k _ w.wk⟩
  · exact .inr (.inl ⟨a, rfl, ⟨xs, q.sq⟩, k _ (wk_tup hm q r)⟩)
  · exact .inr (.inr ⟨s, rfl, k _ wk_str⟩)
theorem mut_dof (R : SR K mg D0 H env σ) {a : Addr} (h : mutA (lock env L) σ a) : Dof D0 env σ a := R.mut (mut_lock h)
/-- over what an expression gives -/
theorem i_c_imp {m : M Opnd} {R : L2.It → Hp → Prop} (h : tI K mg D0 W (fun env => (m env).bind fun x env1 => optO (walkO env1 x) env1) σ H R) :
    tR K mg D0 W (OpdR K mg D0) m σ H fun x H1 => itV K x H1 R := by
  obtain ⟨env, R0, h⟩ := h
  refine ⟨env, R0, ?_⟩
  cases e : m env with
  | stuck => simp only [e, bind_stuck] at h; exact h
  | exc x env1 => simp only [e, bind_exc] at h; exact h
  | ok o env1 =>
    simp only [e, bind_ok] at h
    intro v H1 S R1 ho
    cases ew : walkO env1 o with
    | none => rw [ew] at h; exact h.elim
    | some w =>
      rw [ew] at h
      obtain ⟨lk, wv, _⟩ := walkO_is (ts := w.1) (L := w.2) R1 ho ew
      exact wv.it (fun b hb => mut_dof R1 hb) fun J wk => h J H1 S R1 lk wk
theorem intO_is {o : Opnd} {v : V} {Ha : Hp} {i : Int} (R : SR K mg D0 H env σ) (ho : OpdR K mg D0 o v Ha env σ H) (e : intO env o = some i) : v = .int i := by
  unfold intO at e
  split at e
  · rename_i j ej
    cases e
    exact (ho.get R ej).int
  · cases e
theorem okR_is {i : Int} (h : okR i = true) : -(2 ^ 62) ≤ i ∧ i < 2 ^ 62 := by
  unfold okR at h
  simpa using h
theorem lk_nil : LkOk env [] := fun i hi => absurd hi (by simp)
theorem i_r1_imp {m : M Opnd} {R : L2.It → Hp → Prop} (h : tI K mg D0 W (fun env => (m env).bind fun x env1 => optO ((intO env1 x).bind fun j => if okR j then some (rangeT 0 j, []) else none) env1) σ H R) :
    iRng1 (L2.tCons (tR K mg D0 W (OpdR K mg D0) m) L2.tNil) σ H R := by
  obtain ⟨env, R0, h⟩ := h
  refine ⟨env, R0, ?_⟩
  cases e : m env with
  | stuck => simp only [e, bind_stuck] at h; exact h
  | exc x env1 => simp only [e, bind_exc] at h; exact h
  | ok o env1 =>
    simp only [e, bind_ok] at h
    intro v H1 S R1 ho
    cases ej : intO env1 o with
    | none => rw [ej] at h; exact h.elim
    | some j =>
      rw [ej] at h
      simp only [Option.bind_some] at h
      split at h
      · rename_i hj
        obtain ⟨b1, b2⟩ := okR_is hj
        refine ⟨j, by rw [intO_is R1 ho ej], b1, b2, h _ H1 S R1 lk_nil ?_⟩
        have := wk_range (K := K) (mg := mg) (lo := 0) (hi := j) (H0 := H1) (D := Dof D0 env1 σ) (Mu := mutA (lock env1 []) σ)
        rw [show j - 0 = j by omega] at this
        exact this
      · exact h.elim
theorem i_r2_imp {m n : M Opnd} {R : L2.It → Hp → Prop} (h : tI K mg D0 W (fun env => (m env).bind fun x env1 => (n env1).bind fun y env2 => optO ((intO env2 x).bind fun i => (intO env2 y).bind fun j => if okR i && okR j then some (rangeT i j, []) else none) env2) σ H R) :
    iRng2 (L2.tCons (tR K mg D0 W (OpdR K mg D0) m) (L2.tCons (tR K mg D0 W (OpdR K mg D0) n) L2.tNil)) σ H R := by
  obtain ⟨env, R0, h⟩ := h
  refine ⟨env, R0, ?_⟩
  cases e : m env with
  | stuck => simp only [e, bind_stuck] at h; exact h
  | exc x env1 => simp only [e, bind_exc] at h; exact h
  | ok o env1 =>
    simp only [e, bind_ok] at h
    intro v H1 S R1 ho
    refine ⟨env1, R1, ?_⟩
    cases e2 : n env1 with
    | stuck => simp only [e2, bind_stuck] at h; exact h
    | exc x env2 => simp only [e2, bind_exc] at h; exact XPost.back S h
    | ok p env2 =>
      simp only [e2, bind_ok] at h
      intro w H2 S2 R2 hp
      cases ei : intO env2 o with
      | none => rw [ei] at h; exact h.elim
      | some i =>
        cases ej : intO env2 p with
        | none => rw [ei, ej] at h; exact h.elim
        | some j =>
          rw [ei, ej] at h
          simp only [Option.bind_some] at h
          split at h
          · rename_i hj
            simp only [Bool.and_eq_true] at hj
            obtain ⟨b1, b2⟩ := okR_is hj.1
            obtain ⟨b3, b4⟩ := okR_is hj.2
            exact ⟨i, j, by rw [intO_is R2 (ho.step (Hb := H2) R1 S2) ei, intO_is R2 hp ej], ⟨b1, b2, b3, b4⟩, h _ H2 (S.trans S2) R2 lk_nil wk_range⟩
          · exact h.elim
theorem RgC.posI {i j c : Int} (ha : -(2 ^ 62) ≤ i ∧ i < 2 ^ 62) (hb : -(2 ^ 62) ≤ j ∧ j < 2 ^ 62) (h0 : 0 < c) (h1 : c < 1000000) : RgC i j c ((j - i + c - 1) / c).toNat := by
  have e : Builtin.Range.rangeSize i j c = (((j - i + c - 1) / c).toNat : Int) := by
    unfold Builtin.Range.rangeSize
    rw [if_pos (by omega)]
    split
    · have e : j - i + c - 1 = (j - i - 1) + 1 * c := by omega
      rw [e, Int.add_mul_ediv_right _ _ (by omega)]
      have := Int.ediv_nonneg (a := j - i - 1) (b := c) (by omega) (by omega)
      omega
    · have : (j - i + c - 1) / c < 1 := Int.ediv_lt_of_lt_mul h0 (by omega)
      omega
  refine ⟨by omega, by omega, ?_, e⟩
  have h2 : Builtin.Range.rangeSize i j c ≤ (((j - i).toNat + (i - j).toNat : Nat) : Int) ∧ 0 ≤ Builtin.Range.rangeSize i j c := by
    refine ⟨?_, by rw [e]; exact Int.natCast_nonneg _⟩
    unfold Builtin.Range.rangeSize
    rw [if_pos (by omega)]
    split
    · have := Int.ediv_le_self c (show (0 : Int) ≤ j - i - 1 by omega); omega
    · omega
  unfold Builtin.Range.small
  simp only [Builtin.Range.rangeFitsLong, Bool.and_eq_true, Bool.or_eq_true, decide_eq_true_eq, beq_iff_eq, show (c : Int) > 0 from h0, if_true]
  obtain ⟨h2, h3⟩ := h2
  generalize Builtin.Range.rangeSize i j c = z at *
  omega
theorem i_r3_imp {m n p : M Opnd} {R : L2.It → Hp → Prop} (h : tI K mg D0 W (fun env => (m env).bind fun x env1 => (n env1).bind fun y env2 => (p env2).bind fun z env3 => optO ((intO env3 x).bind fun i => (intO env3 y).bind fun j => (intO env3 z).bind fun k => if okR i && okR j && decide (0 < k) && decide (k < 1000000) then some (rangeS i j k, []) else none) env3) σ H R) :
    iRng3 (L2.tCons (tR K mg D0 W (OpdR K mg D0) m) (L2.tCons (tR K mg D0 W (OpdR K mg D0) n) (L2.tCons (tR K mg D0 W (OpdR K mg D0) p) L2.tNil))) σ H R := by
  obtain ⟨env, R0, h⟩ := h
  refine ⟨env, R0, ?_⟩
  cases e : m env with
  | stuck => simp only [e, bind_stuck] at h; exact h
  | exc x env1 => simp only [e, bind_exc] at h; exact h
  | ok o env1 =>
    simp only [e, bind_ok] at h
    intro v H1 S R1 ho
    refine ⟨env1, R1, ?_⟩
    cases e2 : n env1 with
    | stuck => simp only [e2, bind_stuck] at h; exact h
    | exc x env2 => simp only [e2, bind_exc] at h; exact XPost.back S h
    | ok q env2 =>
      simp only [e2, bind_ok] at h
      intro w H2 S2 R2 hp
      refine ⟨env2, R2, ?_⟩
      cases e3 : p env2 with
      | stuck => simp only [e3, bind_stuck] at h; exact h
      | exc x env3 => simp only [e3, bind_exc] at h; exact XPost.back (S.trans S2) h
      | ok r env3 =>
        simp only [e3, bind_ok] at h
        intro u H3 S3 R3 hr
        cases ei : intO env3 o with
        | none => rw [ei] at h; exact h.elim
        | some i =>
          cases ej : intO env3 q with
          | none => rw [ei, ej] at h; exact h.elim
          | some j =>
            cases ek : intO env3 r with
            | none => rw [ei, ej, ek] at h; exact h.elim
            | some k =>
              rw [ei, ej, ek] at h
              simp only [Option.bind_some] at h
              split at h
              · rename_i hj
                simp only [Bool.and_eq_true, decide_eq_true_eq] at hj
                obtain ⟨⟨⟨b1, b2⟩, b3⟩, b4⟩ := hj
                exact ⟨i, j, k, _, by rw [intO_is R3 ((ho.step (Hb := H2) R1 S2).step (Hb := H3) R2 S3) ei, intO_is R3 (hp.step (Hb := H3) R2 S3) ej, intO_is R3 hr ek], RgC.posI (okR_is b1) (okR_is b2) b3 b4, h _ H3 ((S.trans S2).trans S3) R3 lk_nil (wk_rangeS rfl)⟩
              · exact h.elim
theorem lst_wk {o : Opnd} {v : V} {Ha : Hp} (R : SR K mg D0 H env σ) (ho : OpdR K mg D0 o v Ha env σ H) (l : lstO env o = true) (e : walkO env o = some (ts, L)) : LkOk env L ∧ ∃ a : Addr, v = .ref a ∧ WkL K mg a ts H (Dof D0 env σ) (mutA (lock env L) σ) := by
  obtain ⟨lk, _, wl⟩ := walkO_is R ho e
  exact ⟨lk, wl l⟩
theorem seqO_is {o : Opnd} (h : seqO env o = true) : lstO env o = true ∨ ∃ xs, opT env o = some (.tup xs) := by
  unfold seqO at h
  unfold lstO
  cases e : opT env o with
  | none => rw [e] at h; cases h
  | some t =>
    rw [e] at h
    cases t <;> first | exact .inl rfl | exact .inr ⟨_, rfl⟩ | cases h
theorem walkO_tup {o : Opnd} {us : List T} {w : List T × List Nat} (h : opT env o = some (.tup us)) (e : walkO env o = some w) : w.1 = us := by
  cases o with
  | val t =>
    cases h
    cases e
    rfl
  | slot i =>
    unfold opT at h
    unfold walkO at e
    dsimp only at h e
    cases q : env[i]? with
    | none => rw [q] at h; cases h
    | some s =>
      rw [q] at h e
      cases s with
      | none => cases h
      | some p =>
        obtain ⟨f, t⟩ := p
        cases h
        dsimp only at e
        split at e
        · cases e
        · cases e; rfl
theorem i_enum_imp {m : M Opnd} {R : L2.It → Hp → Prop} (h : tI K mg D0 W (fun env => (m env).bind fun x env1 => optO (if seqO env1 x then (walkO env1 x).map fun w => (enumT w.1, w.2) else none) env1) σ H R) :
    iEnumA K (L2.tCons (tR K mg D0 W (OpdR K mg D0) m) L2.tNil) σ H R := by
  obtain ⟨env, R0, h⟩ := h
  refine ⟨env, R0, ?_⟩
  cases e : m env with
  | stuck => simp only [e, bind_stuck] at h; exact h
  | exc x env1 => simp only [e, bind_exc] at h; exact h
  | ok o env1 =>
    simp only [e, bind_ok] at h
    intro v H1 S R1 ho
    split at h
    · rename_i hl
      cases ew : walkO env1 o with
      | none => rw [ew] at h; exact h.elim
      | some w =>
        rw [ew] at h
        rcases seqO_is hl with hl | ⟨us, hu⟩
        · obtain ⟨lk, a, rfl, wl⟩ := lst_wk (ts := w.1) (L := w.2) R1 ho hl ew
          obtain ⟨xs, g, r⟩ := id wl
          exact ⟨a, xs, rfl, .inl ⟨g H1 fun _ _ h _ => h, h _ H1 S R1 lk wl.enum⟩⟩
        · obtain ⟨lk, _, _⟩ := walkO_is (ts := w.1) (L := w.2) R1 ho ew
          obtain ⟨_, _, _, _, _, rep⟩ := (ho.get R1 hu).tup
          have ew1 := walkO_tup hu ew
          obtain ⟨w1, w2⟩ := w
          have ew1 : w1 = us := ew1
          subst ew1
          cases rep with
          | @tup _ xs1 a q r => exact ⟨a, xs1, rfl, .inr ⟨q.sq, h _ H1 S R1 lk (wk_enumT (fun b hb => mut_dof R1 hb) q r)⟩⟩
    · exact h.elim
theorem i_zip_imp {m n : M Opnd} {R : L2.It → Hp → Prop} (h : tI K mg D0 W (fun env => (m env).bind fun x env1 => (n env1).bind fun y env2 => optO (if lstO env2 x && lstO env2 y then (walkO env2 x).bind fun w => (walkO env2 y).map fun v => (zipT w.1 v.1, w.2 ++ v.2) else none) env2) σ H R) :
    iZip K (L2.tCons (tR K mg D0 W (OpdR K mg D0) m) (L2.tCons (tR K mg D0 W (OpdR K mg D0) n) L2.tNil)) σ H R := by
  obtain ⟨env, R0, h⟩ := h
  refine ⟨env, R0, ?_⟩
  cases e : m env with
  | stuck => simp only [e, bind_stuck] at h; exact h
  | exc x env1 => simp only [e, bind_exc] at h; exact h
  | ok o env1 =>
    simp only [e, bind_ok] at h
    intro v H1 S R1 ho
    refine ⟨env1, R1, ?_⟩
    cases e2 : n env1 with
    | stuck => simp only [e2, bind_stuck] at h; exact h
    | exc x env2 => simp only [e2, bind_exc] at h; exact XPost.back S h
    | ok p env2 =>
      simp only [e2, bind_ok] at h
      intro w H2 S2 R2 hp
      split at h
      · rename_i hl
        simp only [Bool.and_eq_true] at hl
        cases ew : walkO env2 o with
        | none => rw [ew] at h; exact h.elim
        | some w1 =>
          cases ew2 : walkO env2 p with
          | none => rw [ew, ew2] at h; exact h.elim
          | some w2 =>
            rw [ew, ew2] at h
            obtain ⟨lk, a, rfl, wl⟩ := lst_wk (ts := w1.1) (L := w1.2) R2 (ho.step (Hb := H2) R1 S2) hl.1 ew
            obtain ⟨lk2, b, rfl, wl2⟩ := lst_wk (ts := w2.1) (L := w2.2) R2 hp hl.2 ew2
            obtain ⟨xs, g, r⟩ := id wl
            obtain ⟨ys, g', r'⟩ := id wl2
            exact ⟨a, b, xs, ys, rfl, g H2 fun _ _ h _ => h, g' H2 fun _ _ h _ => h, h _ H2 (S.trans S2) R2 (fun i hi => (List.mem_append.mp hi).elim (lk i) (lk2 i))
              (WkL.zip (wl.mono fun b hb => mut_more (fun i hi => List.mem_append_left _ hi) hb) (wl2.mono fun b hb => mut_more (fun i hi => List.mem_append_right _ hi) hb))⟩
      · exact h.elim
end
end VL

set_option maxHeartbeats 2000000
namespace VL
open PySem PySem.Spec PyProof.Rows L2

/-! ### targets -/
section
variable {K : PySem.W.Frag} {mg : Str → Option Value} {H0 H H1 H' : Hp} {D0 D Mu Mu' : Addr → Prop} {env env1 env' : En} {σ σ1 σ' : L2.St} {W : WX} {sl sl' : List Nat} {ts us : List T}
/-- a slot that may be stored to -/
theorem step_set {i : Nat} {s s' : Slot} {v : Option V} (e : env[i]? = some s) (hs : freeS s = true) (h' : ∀ f t, s' = some (f, t) → f = .sh) : Step env σ H (env.set i s') (σ.set i v) H := by
  refine ⟨fun _ _ h _ => h, fun a h => ?_, fun a h => ?_, fun j f t ej hf => ?_, fun _ h => h, fun a h => ?_⟩
  · obtain ⟨j, f, t, ej, hf, sj⟩ := h
    rcases set_cases ej with ⟨_, z, _⟩ | ⟨hne, ej⟩
    · have := h' f t z.symm; subst this; rcases hf with z | z <;> cases z
    · exact .inl ⟨j, f, t, ej, hf, by rwa [List.getElem?_set_ne (Ne.symm hne)] at sj⟩
  · obtain ⟨j, f, t, ej, hf, sj⟩ := h
    rcases set_cases ej with ⟨_, z, _⟩ | ⟨hne, ej⟩
    · have := h' f t z.symm; subst this; rcases hf with z | z <;> cases z
    · exact .inl ⟨j, f, t, ej, hf, by rwa [List.getElem?_set_ne (Ne.symm hne)] at sj⟩
  · have hne : j ≠ i := fun z => by
      subst z
      rw [e] at ej; cases ej
      rcases hf with z | z | z <;> subst z <;> cases hs
    exact ⟨by rw [List.getElem?_set_ne (Ne.symm hne)], t, by rw [List.getElem?_set_ne (Ne.symm hne)]; exact ej⟩
  · obtain ⟨j, f, t, ej, hf, sj⟩ := h
    rcases set_cases ej with ⟨_, z, _⟩ | ⟨hne, ej⟩
    · have := h' f t z.symm; subst this; rcases hf with z | z <;> cases z
    · exact ⟨j, f, t, ej, hf, by rwa [List.getElem?_set_ne (Ne.symm hne)] at sj⟩
def outS : Out → Slot
  | .val t => some (.sh, t)
  | .own t => some (.own, t)
theorem setName_is {i : Nat} {o : Out} (hr : setName i o env ≠ .stuck) : ∃ s, env[i]? = some s ∧ freeS s = true ∧ setName i o env = .ok () (env.set i (outS o)) := by
  unfold setName at hr ⊢
  split
  · rename_i s e
    refine ⟨s, e, ?_⟩
    rw [e] at hr
    dsimp only at hr
    split
    · exact absurd rfl hr
    · exact absurd rfl hr
    · exact absurd rfl hr
    · rename_i h1 h2 h3
      refine ⟨?_, by cases o <;> rfl⟩
      unfold freeS
      split
      · exact absurd rfl (h1 _)
      · exact absurd rfl (h2 _)
      · exact absurd rfl (h3 _)
      · rfl
  · rename_i e
    rw [e] at hr
    exact absurd rfl hr
theorem g_name_imp {i : Nat} {v : V} {Q : L2.St → Hp → Prop} (h : tG K mg D0 W [i] (fun t => setName i (.val t)) v σ H Q) : gName i v σ H Q := by
  obtain ⟨env, t, R, r, h⟩ := h
  have h : PG' K mg D0 W [i] env σ H Q (setName i (.val t) env) := h
  have hr : setName i (.val t) env ≠ .stuck := fun z => by rw [z] at h; exact h
  obtain ⟨s, e, fs, er⟩ := setName_is hr
  rw [er] at h
  exact h _ H (step_set e fs fun f u z => by cases z; rfl) (R.setSh r) ⟨by simp, fun j hj => by rw [List.getElem?_set_ne]; intro z; exact hj (by simp [z])⟩
theorem XPostS.back {x : T} (S : Step env σ H env1 σ1 H1) (h : XPostS K mg D0 W env σ H x env') : XPostS K mg D0 W env1 σ1 H1 x env' := fun cls d σ' H' S' R' xr => h cls d σ' H' (S.trans S') R' xr
theorem XPostS.expr {x : T} (h : XPostS K mg D0 W env σ H x env') : XPost K mg D0 W env σ H x env' := fun cls d H' S R xr => h cls d σ H' S R xr
/-- targets, one after another -/
theorem gs_nil_imp {vs : List V} {Q : L2.St → Hp → Prop} (h : tGs K mg D0 W [] (evGs Φ []) vs σ H Q) : gNil vs σ H Q := by
  obtain ⟨env, ts, R, r, h⟩ := h
  cases r with
  | nil => exact ⟨rfl, h σ H Step.refl R ⟨rfl, fun _ _ => rfl⟩⟩
  | cons _ _ => exact h.elim
theorem gs_cons_imp {Φ : Ft} {g : Tg} {gs : List Tg} {vs : List V} {Q : L2.St → Hp → Prop} (h : tGs K mg D0 W (sl ++ sl') (evGs Φ (g :: gs)) vs σ H Q) : gCons (tG K mg D0 W sl (evG Φ g)) (tGs K mg D0 W sl' (evGs Φ gs)) vs σ H Q := by
  obtain ⟨env, ts, R, r, h⟩ := h
  cases r with
  | nil => exact h.elim
  | @cons t v ts vs r l =>
    have h : PG' K mg D0 W (sl ++ sl') env σ H Q ((evG Φ g t env).bind fun _ env1 => evGs Φ gs ts env1) := h
    refine ⟨v, vs, rfl, env, t, R, r, ?_⟩
    cases e : evG Φ g t env with
    | stuck => rw [e] at h; exact h
    | exc x env1 => rw [e] at h; exact h
    | ok u env1 =>
      rw [e] at h
      simp only [bind_ok] at h
      intro σ1 H1 S R1 hs
      refine ⟨env1, ts, R1, Step.repL R S l, ?_⟩
      cases e2 : evGs Φ gs ts env1 with
      | stuck => rw [e2] at h; exact h
      | exc x env2 => rw [e2] at h; exact XPostS.back S h
      | ok u2 env2 =>
        rw [e2] at h
        intro σ2 H2 S2 R2 hs2
        exact h σ2 H2 (S.trans S2) R2 ⟨hs2.1.trans hs.1, fun i hi => (hs2.2 i fun z => hi (List.mem_append_right _ z)).trans (hs.2 i fun z => hi (List.mem_append_left _ z))⟩
theorem g_tup_imp {Φ : Ft} {gs : List Tg} {v : V} {n : Nat} {Q : L2.St → Hp → Prop} (hn : gs.length = n) (h : tG K mg D0 W sl (evG Φ (.tup gs)) v σ H Q) : gTup K n (tGs K mg D0 W sl (evGs Φ gs)) v σ H Q ∨ gUnl K n (tGs K mg D0 W sl (evGs Φ gs)) v σ H Q := by
  obtain ⟨env, t, R, r, h⟩ := h
  cases r with
  | @lst ts xs a h1 h2 h3 =>
    have h : PG' K mg D0 W sl env σ H Q ((if ts.length = gs.length then evGs Φ gs ts else fun _ => .stuck) env) := h
    split at h
    · rename_i hl; exact .inr ⟨a, xs, rfl, .inl (.inl h1), by rw [← hn, ← hl, h3.length], env, ts, R, h3, h⟩
    · exact h.elim
  | @tup ts xs a h1 h2 =>
    have h : PG' K mg D0 W sl env σ H Q ((if ts.length = gs.length then evGs Φ gs ts else fun _ => .stuck) env) := h
    split at h
    · rename_i hl; exact .inl ⟨a, xs, rfl, h1.sq, by rw [← hn, ← hl, h2.length], env, ts, R, h2, h⟩
    · exact h.elim
  | _ => exact h.elim
theorem pg_seq {X : Cx} {es : List Expr} {k : Nat} {t : TGs} {n : Nat} {pos : Pos} (hc : X.calm = true) (h : PGs X es t)
    (hn : (assignEach es X.env).length = n) (hst : (assignEach es X.env).findIdx? (·.1) = none) : PG X (.Tuple es k pos) (fun v σ H Q => gTup X.K n t v σ H Q ∨ gUnl X.K n t v σ H Q) :=
  ⟨fun pins s σ H v u Q I r hw => hw.elim (fun hw => (pg_tup hc h hn hst).run pins s σ H v u Q I r hw) fun hw => (pg_unl hc h hn hst).run pins s σ H v u Q I r hw⟩
theorem setIx_is {o k v o' : T} (h : setIx o k v = some o') : (∃ xs i j, o = .lst xs ∧ k = .int i ∧ ixN xs.length i = some j ∧ o' = .lst (xs.set j v)) ∨ (keyOf o k = true ∧ (ksT o).1.length < LIM ∧ o' = reD o (putK' k v (ksT o).1 (ksT o).2)) := by
  unfold setIx at h
  split at h
  · rename_i xs i
    obtain ⟨j, hj, e⟩ := Option.map_eq_some_iff.mp h
    exact .inl ⟨xs, i, j, rfl, rfl, hj, e.symm⟩
  · split at h
    · rename_i hc
      exact .inr ⟨hc.1, hc.2, (Option.some.inj h).symm⟩
    · cases h
/-! ### dicts -/
inductive All2 {κ : Type} (ρ : T → κ → Prop) : List T → List κ → Prop
  | nil : All2 ρ [] []
  | cons {x k xs ks} : ρ x k → All2 ρ xs ks → All2 ρ (x :: xs) (k :: ks)
theorem All2.app {κ : Type} {ρ : T → κ → Prop} {x : T} {k : κ} (h : ρ x k) : ∀ {xs : List T} {ks : List κ}, All2 ρ xs ks → All2 ρ (xs ++ [x]) (ks ++ [k])
  | _, _, .nil => .cons h .nil
  | _, _, .cons q l => .cons q (All2.app h l)
def kRel (t : T) (k : Key) : Prop := (∃ i, t = .int i ∧ k = .inl i) ∨ ∃ s, t = .str s ∧ k = .inr s
def kRelT (t : T) (k : List Key) : Prop := ∃ ns : List Int, t = .ktp ns ∧ k = ns.map Sum.inl
theorem KeyL.all : ∀ {ks : List T} {kk : List Key}, KeyL ks kk → All2 kRel ks kk
  | _, _, .nil => .nil
  | _, _, .int h => .cons (.inl ⟨_, rfl, rfl⟩) (KeyL.all h)
  | _, _, .str h => .cons (.inr ⟨_, rfl, rfl⟩) (KeyL.all h)
theorem KeyL.of : ∀ {ks : List T} {kk : List Key}, All2 kRel ks kk → KeyL ks kk
  | _, _, .nil => .nil
  | _, _, .cons h l => by
    rcases h with ⟨i, rfl, rfl⟩ | ⟨i, rfl, rfl⟩
    · exact .int (KeyL.of l)
    · exact .str (KeyL.of l)
theorem KeyTL.all : ∀ {ks : List T} {kk : List (List Key)}, KeyTL ks kk → All2 kRelT ks kk
  | _, _, .nil => .nil
  | _, _, .cons h => .cons ⟨_, rfl, rfl⟩ (KeyTL.all h)
theorem KeyTL.of : ∀ {ks : List T} {kk : List (List Key)}, All2 kRelT ks kk → KeyTL ks kk
  | _, _, .nil => .nil
  | _, _, .cons h l => by
    obtain ⟨ns, rfl, rfl⟩ := h
    exact .cons (KeyTL.of l)
theorem inl_inj : ∀ {a b : List Int}, a.map (Sum.inl : Int → Key) = b.map Sum.inl → a = b
  | [], [], _ => rfl
  | [], _ :: _, h => by cases h
  | _ :: _, [], h => by cases h
  | x :: a, y :: b, h => by
    rw [List.map_cons, List.map_cons] at h
    injection h with h1 h2
    rw [Sum.inl.inj h1, inl_inj h2]
theorem kRel_eq {x y : T} {k l : Key} (h : kRel x k) (g : kRel y l) : keyEq x y = decide (k = l) := by
  rcases h with ⟨i, rfl, rfl⟩ | ⟨i, rfl, rfl⟩ <;> rcases g with ⟨j, rfl, rfl⟩ | ⟨j, rfl, rfl⟩
  · show (i == j) = _
    by_cases e : i = j
    · subst e; simp
    · rw [decide_eq_false (fun z => e (Sum.inl.inj z))]; simpa using e
  · show false = _
    exact (decide_eq_false (fun z => by cases z)).symm
  · show false = _
    exact (decide_eq_false (fun z => by cases z)).symm
  · show (i == j) = _
    by_cases e : i = j
    · subst e; simp
    · rw [decide_eq_false (fun z => e (Sum.inr.inj z))]; simpa using e
theorem kRelT_eq {x y : T} {k l : List Key} (h : kRelT x k) (g : kRelT y l) : keyEq x y = decide (k = l) := by
  obtain ⟨i, rfl, rfl⟩ := h
  obtain ⟨j, rfl, rfl⟩ := g
  show (i == j) = _
  by_cases e : i = j
  · subst e; simp
  · rw [decide_eq_false (fun z => e (inl_inj z))]; simpa using e
theorem getK_val {κ : Type} [DecidableEq κ] {ρ : T → κ → Prop} {k : T} {kk : κ} (hk : ∀ x kx, ρ x kx → keyEq x k = decide (kx = kk)) : ∀ {ks vs : List T} {kvs : List (κ × V)}, All2 ρ ks (kvs.map (·.1)) → RepL K mg H D vs (kvs.map (·.2)) →
    match getK ks vs k with
    | none => valV kvs kk = none
    | some t => ∃ v, valV kvs kk = some v ∧ Rep K mg H D t v
  | _, _, [], .nil, .nil => rfl
  | _, _, (kx, w) :: kvs, .cons (x := x) (xs := xs) hx hl, .cons (t := t) (ts := ts) r l => by
    have ih := getK_val hk hl l
    have e := hk _ _ hx
    have ev : valV ((kx, w) :: kvs) kk = if kx = kk then some w else valV kvs kk := by
      unfold valV
      rw [List.find?_cons]
      by_cases q : kx = kk
      · simp [q]
      · simp [q]
    rw [ev]
    have eg : getK (x :: xs) (t :: ts) k = if keyEq x k then some t else getK xs ts k := rfl
    rw [eg]
    by_cases q : kx = kk
    · rw [e, if_pos q, decide_eq_true q]
      exact ⟨w, rfl, r⟩
    · rw [e, if_neg q, decide_eq_false q]
      exact ih
theorem any_val {κ : Type} [DecidableEq κ] {ρ : T → κ → Prop} {k : T} {kk : κ} (hk : ∀ x kx, ρ x kx → keyEq x k = decide (kx = kk)) : ∀ {ks : List T} {kvs : List (κ × V)}, All2 ρ ks (kvs.map (·.1)) → (ks.any fun x => keyEq x k) = kvs.any fun kv => decide (kv.1 = kk)
  | _, [], .nil => rfl
  | _, (kx, w) :: kvs, .cons hx hl => by
    rw [List.any_cons, List.any_cons, any_val hk hl, hk _ _ hx]
theorem put_zip {κ : Type} [DecidableEq κ] {ρ : T → κ → Prop} {k t : T} {kk : κ} {v : V} (hk : ∀ x kx, ρ x kx → keyEq x k = decide (kx = kk)) (hv : Rep K mg H D t v) : ∀ {ks vs : List T} {kvs : List (κ × V)}, All2 ρ ks (kvs.map (·.1)) → RepL K mg H D vs (kvs.map (·.2)) →
    RepL K mg H D (List.zipWith (fun x w => if keyEq x k then t else w) ks vs) ((kvs.map fun kv => if kv.1 = kk then (kv.1, v) else kv).map (·.2))
  | _, _, [], .nil, .nil => .nil
  | _, _, (kx, w) :: kvs, .cons hx hl, .cons r l => by
    have ih := put_zip hk hv hl l
    rw [List.zipWith_cons_cons, List.map_cons, List.map_cons]
    refine .cons ?_ ih
    rw [hk _ _ hx]
    by_cases q : kx = kk
    · simp only [q, decide_true, if_true]; exact hv
    · simp only [q, decide_false, if_false, Bool.false_eq_true]; exact r
theorem map_fst_put {κ : Type} [DecidableEq κ] {kk : κ} {v : V} (kvs : List (κ × V)) : (kvs.map fun kv => if kv.1 = kk then (kv.1, v) else kv).map (·.1) = kvs.map (·.1) := by
  rw [List.map_map]
  refine List.map_congr_left fun x _ => ?_
  show (if x.1 = kk then (x.1, v) else x).1 = x.1
  split <;> rfl
theorem put_val {κ : Type} [DecidableEq κ] {ρ : T → κ → Prop} {k t : T} {kk : κ} {v : V} (hk : ∀ x kx, ρ x kx → keyEq x k = decide (kx = kk)) (hr : ρ k kk) (hv : Rep K mg H D t v) {ks vs : List T} {kvs : List (κ × V)} (h : All2 ρ ks (kvs.map (·.1))) (l : RepL K mg H D vs (kvs.map (·.2))) :
    All2 ρ (putK' k t ks vs).1 ((putK kvs kk v).map (·.1)) ∧ RepL K mg H D (putK' k t ks vs).2 ((putK kvs kk v).map (·.2)) := by
  unfold putK' putK
  rw [any_val hk h]
  split
  · refine ⟨?_, put_zip hk hv h l⟩
    rw [map_fst_put]; exact h
  · rw [List.map_append, List.map_append]
    exact ⟨h.app hr, l.append (.cons hv .nil)⟩
theorem All2.length {κ : Type} {ρ : T → κ → Prop} : ∀ {xs : List T} {ks : List κ}, All2 ρ xs ks → xs.length = ks.length
  | _, _, .nil => rfl
  | _, _, .cons _ l => by rw [List.length_cons, List.length_cons, All2.length l]
theorem RepP.dtt {ks vs : List T} {v : V} (h : RepP K mg H D (.dtt ks vs) v) : ∃ a kvs, v = .ref a ∧ Rd H a (.dT kvs) ∧ KeyTL ks (kvs.map (·.1)) ∧ RepL K mg H D vs (kvs.map (·.2)) := by
  rcases h with h | ⟨a, e, h⟩
  · cases h with
    | dtt h1 n kl l => exact ⟨_, _, rfl, h1, kl, l⟩
  · obtain ⟨kvs, h1, kl, l⟩ := h; exact ⟨a, kvs, e, .inl h1, kl, l⟩
theorem RepP.ktp {ns : List Int} {v : V} (h : RepP K mg H D (.ktp ns) v) : ∃ a, v = .ref a ∧ H a = some (.tup ((ns.map (Sum.inl : Int → Key)).map kV)) := by
  have e : (ns.map (Sum.inl : Int → Key)).map kV = ns.map V.int := by rw [List.map_map]; rfl
  rw [e]
  rcases h with h | ⟨a, _, h⟩
  · cases h with
    | ktp h1 n => exact ⟨_, rfl, h1⟩
  · exact h.elim
theorem keyOf_is {d k : T} (h : keyOf d k = true) : (∃ ks vs, d = .dct ks vs ∧ ((∃ i, k = .int i) ∨ ∃ s, k = .str s)) ∨ ∃ ks vs ns, d = .dtt ks vs ∧ k = .ktp ns := by
  unfold keyOf at h
  split at h
  · exact .inl ⟨_, _, rfl, .inl ⟨_, rfl⟩⟩
  · exact .inl ⟨_, _, rfl, .inr ⟨_, rfl⟩⟩
  · exact .inr ⟨_, _, _, rfl, rfl⟩
  · cases h
theorem dget_is {d k : T} {dv kv : V} (hk : keyOf d k = true) (p : RepP K mg H D d dv) (q : RepP K mg H D k kv) : ∃ (a : Addr) (o : Option V), dv = .ref a ∧ DGet H a kv o ∧
    match getK (ksT d).1 (ksT d).2 k with
    | none => o = none
    | some t => ∃ v, o = some v ∧ Rep K mg H D t v := by
  rcases keyOf_is hk with ⟨ks, vs, rfl, hs⟩ | ⟨ks, vs, ns, rfl, rfl⟩
  · obtain ⟨a, kvs, rfl, hr, kl, l⟩ := p.dct
    have : ∃ kk : Key, kRel k kk ∧ kv = kV kk := by
      rcases hs with ⟨i, rfl⟩ | ⟨i, rfl⟩
      · exact ⟨.inl i, .inl ⟨i, rfl, rfl⟩, q.int⟩
      · exact ⟨.inr i, .inr ⟨i, rfl, rfl⟩, q.str⟩
    obtain ⟨kk, hr2, rfl⟩ := this
    exact ⟨a, _, rfl, .inl ⟨kvs, kk, hr, rfl, rfl⟩, getK_val (fun x kx hx => kRel_eq hx hr2) kl.all l⟩
  · obtain ⟨a, kvs, rfl, hr, kl, l⟩ := p.dtt
    obtain ⟨b, rfl, hb⟩ := q.ktp
    exact ⟨a, _, rfl, .inr ⟨kvs, _, b, hr, rfl, hb, rfl⟩, getK_val (fun x kx hx => kRelT_eq hx ⟨ns, rfl, rfl⟩) kl.all l⟩
theorem dput_is {d k t : T} {a : Addr} {kv v : V} (hk : keyOf d k = true) (hl : (ksT d).1.length < LIM) (p : RepTop K mg H D d a) (q : RepP K mg H D k kv) (r : Rep K mg H D t v) (hD : D a) : ∃ u : HO, DPut H a kv v (upd H a u) ∧ RepTop K mg (upd H a u) D (reD d (putK' k t (ksT d).1 (ksT d).2)) a := by
  have kp : ∀ (u : HO) b o, H b = some o → ¬ D b → upd H a u b = some o := fun u b o hb n => by
    rw [upd_ne (fun z => n (by rw [z]; exact hD))]; exact hb
  rcases keyOf_is hk with ⟨ks, vs, rfl, hs⟩ | ⟨ks, vs, ns, rfl, rfl⟩
  · obtain ⟨kvs, h1, kl, l⟩ := p
    have : ∃ kk : Key, kRel k kk ∧ kv = kV kk := by
      rcases hs with ⟨i, rfl⟩ | ⟨i, rfl⟩
      · exact ⟨.inl i, .inl ⟨i, rfl, rfl⟩, q.int⟩
      · exact ⟨.inr i, .inr ⟨i, rfl, rfl⟩, q.str⟩
    obtain ⟨kk, hr2, rfl⟩ := this
    obtain ⟨a1, a2⟩ := put_val (t := t) (fun x kx hx => kRel_eq hx hr2) hr2 r kl.all l
    have hlen : kvs.length < sizeLine := by
      have := kl.all.length
      rw [List.length_map] at this
      rw [← this]; exact lim_ltline hl
    exact ⟨_, .inl ⟨kvs, kk, h1, rfl, hlen, rfl⟩, _, upd_same, KeyL.of a1, a2.mono (kp _) fun _ z => .inl z⟩
  · obtain ⟨kvs, h1, kl, l⟩ := p
    obtain ⟨b, rfl, hb⟩ := q.ktp
    obtain ⟨a1, a2⟩ := put_val (t := t) (fun x kx hx => kRelT_eq hx ⟨ns, rfl, rfl⟩) ⟨ns, rfl, rfl⟩ r kl.all l
    have hlen : kvs.length < sizeLine := by
      have := kl.all.length
      rw [List.length_map] at this
      rw [← this]; exact lim_ltline hl
    exact ⟨_, .inr ⟨kvs, _, b, h1, rfl, hb, hlen, rfl⟩, _, upd_same, KeyTL.of a1, a2.mono (kp _) fun _ z => .inl z⟩
def rSetB : TSet := fun o i v H Q => rSetL o i v H Q ∨ rSetD o i v H Q
theorem set_both {X : Cx} (hu : X.A.units + 1 < cLine) : PSet X rSetB := fun pins s σ H o i v ov iv u Q I r1 r2 r3 h => h.elim (fun h => set_list pins s σ H o i v ov iv u Q I r1 r2 r3 h) fun h => set_dict hu pins s σ H o i v ov iv u Q I r1 r2 r3 h
/-- a change of an own object -/
theorem step_change {i : Nat} {f : Fl} {t t' : T} {a : Addr} {o' : HO} (ei : env[i]? = some (some (f, t))) (hf : f = .own ∨ f = .io) (sa : σ[i]? = some (some (.ref a))) : Step env σ H (env.set i (some (f, t'))) σ (upd H a o') := by
  refine ⟨fun b o h n => ?_, fun b h => .inl ?_, fun b h => .inl ?_, fun j g u ej hg => ⟨rfl, ?_⟩, fun b h => ?_, fun b h => ?_⟩
  · have : b ≠ a := fun z => n (z ▸ ⟨i, f, t, ei, hf, sa⟩)
    rw [upd_ne this]; exact h
  · obtain ⟨j, g, u, ej, hg, sj⟩ := h
    rcases set_cases ej with ⟨z, z', _⟩ | ⟨_, ej⟩
    · cases z'; subst z; exact ⟨_, _, _, ei, hg, sj⟩
    · exact ⟨j, g, u, ej, hg, sj⟩
  · obtain ⟨j, g, u, ej, hg, sj⟩ := h
    rcases set_cases ej with ⟨z, z', _⟩ | ⟨_, ej⟩
    · cases z'; subst z; exact ⟨_, _, _, ei, hg, sj⟩
    · exact ⟨j, g, u, ej, hg, sj⟩
  · by_cases z : j = i
    · subst z
      rw [ei] at ej; cases ej
      exact ⟨t', List.getElem?_set_self (get_lt ei)⟩
    · exact ⟨u, by rw [List.getElem?_set_ne (Ne.symm z)]; exact ej⟩
  · by_cases z : b = a
    · subst z; rw [upd_same]; exact fun z => nomatch z
    · rw [upd_ne z]; exact h
  · obtain ⟨j, g, u, ej, hg, sj⟩ := h
    rcases set_cases ej with ⟨z, z', _⟩ | ⟨_, ej⟩
    · cases z'; subst z; exact ⟨_, _, _, ei, hg, sj⟩
    · exact ⟨j, g, u, ej, hg, sj⟩
theorem slot_val {i : Nat} {s : Fl × T} (R : SR K mg D0 H env σ) (e : env[i]? = some (some s)) : ∃ v, σ[i]? = some (some v) := by
  obtain ⟨f, t⟩ := s
  by_cases hf : f = .sh
  · subst hf; obtain ⟨v, sv, _⟩ := R.sh i t e; exact ⟨v, sv⟩
  · obtain ⟨a, sa, _⟩ := R.top i f t e hf; exact ⟨_, sa⟩
theorem keep_upd {a : Addr} {u : HO} (nd : D a) : ∀ b o, H b = some o → ¬ D b → upd H a u b = some o := fun b o hb n => by
  rw [upd_ne (fun z => n (by rw [z]; exact nd))]; exact hb
theorem g_sub_imp {i : Nat} {m : M Opnd} {v : V} {Q : L2.St → Hp → Prop} (h : tG K mg D0 W [] (setSub i m) v σ H Q) : gSub (tVar i) (tR K mg D0 W (OpdR K mg D0) m) rSetB v σ H Q := by
  obtain ⟨env, t, R, r, h⟩ := h
  unfold setSub at h
  split at h
  · rename_i s e
    obtain ⟨w, sw⟩ := slot_val R e
    refine ⟨w, sw, env, R, ?_⟩
    cases em : m env with
    | stuck => rw [em] at h; exact h
    | exc x env1 => rw [em] at h; exact XPostS.expr h
    | ok o env1 =>
      rw [em] at h
      simp only [bind_ok] at h
      intro y H1 S R1 ho
      split at h
      · rename_i k f ob ek e1
        split at h
        · rename_i hf
          cases eo : setIx ob k t with
          | none => rw [eo] at h; exact h.elim
          | some o' =>
            rw [eo] at h
            obtain ⟨a, sa, top, _⟩ := R1.top i f _ e1 (by rcases hf with rfl | rfl <;> decide)
            rw [sw] at sa; cases sa
            have r1 := Step.rep R S r
            have nd : Dof D0 env1 σ a := R1.mut ⟨i, f, _, e1, hf, sw⟩
            rcases setIx_is eo with ⟨xs, p, j, rfl, rfl, hj, rfl⟩ | ⟨hk, hl, rfl⟩
            rotate_left
            · obtain ⟨u, hp, rt⟩ := dput_is hk hl top (ho.get R1 ek) r1 nd
              exact .inr ⟨a, _, rfl, hp, h σ _ (S.trans (step_change e1 hf sw)) (R1.change e1 hf sw rt).1 ⟨rfl, fun _ _ => rfl⟩⟩
            obtain ⟨ys, h1, h2⟩ := top
            refine .inl ⟨a, ys, p, j, rfl, (ho.get R1 ek).int, h1, by rw [← h2.length]; exact hj, h σ _ (S.trans (step_change e1 hf sw)) (R1.change e1 hf sw ?_).1 ⟨rfl, fun _ _ => rfl⟩⟩
            refine ⟨_, upd_same, RepL.set ?_ j ?_⟩
            · exact r1.mono (keep_upd nd) fun b z => .inl z
            · exact h2.mono (keep_upd nd) fun b z => .inl z
        · exact h.elim
      · exact h.elim
  · exact h.elim

/-! ### append, pop, clear -/
def rM (K : PySem.W.Frag) (mg : Str → Option Value) (m : Mm) : V → List V → Hp → VK → Prop := fun x vs H Q => ∃ (D : Addr → Prop) (a : Addr) (os : List V) (ts us us' : List T) (r : T), x = .ref a ∧ H a = some (.lst os) ∧ D a ∧ RepL K mg H D us os ∧ RepL K mg H D ts vs ∧
  mutT m (.lst us) ts = some (.lst us', r) ∧ ∀ w os', RepL K mg H D us' os' → Rep K mg H D r w → Q w (upd H a (.lst os'))
theorem mutT_lst {m : Mm} {ts : List T} {ob o r : T} (h : mutT m ob ts = some (o, r)) : ∃ us us', ob = .lst us ∧ o = .lst us' := by
  unfold mutT at h
  split at h
  · split at h
    · cases h; exact ⟨_, _, rfl, rfl⟩
    · cases h
  · obtain ⟨_, _, z⟩ := Option.map_eq_some_iff.mp h; cases z; exact ⟨_, _, rfl, rfl⟩
  · split at h
    · obtain ⟨_, _, z⟩ := Option.map_eq_some_iff.mp h; cases z; exact ⟨_, _, rfl, rfl⟩
    · cases h
  · cases h; exact ⟨_, _, rfl, rfl⟩
  · cases h
theorem mutS_imp {m : Mm} {i : Nat} {ms : M (List T)} {Q : VK} (h : tR K mg D0 W (OutR K mg D0) (mutS m i ms) σ H Q) :
    tVar i σ H fun x H1 => tyV K "list" x H1 ∧ tA K mg D0 W (ValsR K mg D0) ms σ H1 fun xs H2 => rM K mg m x xs H2 Q := by
  obtain ⟨env, R, h⟩ := h
  have main : ∀ (f : Fl) (us : List T), env[i]? = some (some (f, .lst us)) → (f = .own ∨ f = .io) → PR K mg D0 W (OutR K mg D0) env σ H Q ((ms env).bind fun ts env1 => mutS2 m i ts env1) →
      tVar i σ H fun x H1 => tyV K "list" x H1 ∧ tA K mg D0 W (ValsR K mg D0) ms σ H1 fun xs H2 => rM K mg m x xs H2 Q := fun f us e hf h => by
    obtain ⟨a, sa, ⟨ys, h1, h2⟩, _⟩ := R.top i f _ e (by rcases hf with rfl | rfl <;> decide)
    refine ⟨_, sa, .inl ⟨rfl, ys, .inl (.inl h1)⟩, env, R, ?_⟩
    cases em : ms env with
    | stuck => rw [em] at h; exact h
    | exc x env1 => rw [em] at h; exact h
    | ok ts env1 =>
      rw [em] at h
      simp only [bind_ok] at h
      intro vs H1 S R1 r
      have sd := S.dom a (by rw [h1]; exact fun z => nomatch z)
      unfold mutS2 at h
      split at h
      · rename_i g o e1
        split at h
        · rename_i hg
          split at h
          · rename_i o' rr emu
            obtain ⟨b, sb, rt, _⟩ := R1.top i g _ e1 (by rcases hg with rfl | rfl <;> decide)
            rw [sa] at sb; cases sb
            have nd : Dof D0 env1 σ a := R1.mut ⟨i, g, _, e1, hg, sa⟩
            obtain ⟨us1, us', rfl, rfl⟩ := mutT_lst emu
            · obtain ⟨ys1, q1, q2⟩ := rt
              refine ⟨Dof D0 env1 σ, a, ys1, ts, us1, us', rr, rfl, q1, nd, q2, r, emu, fun w os' q1 q2 => ?_⟩
              have Rc := R1.change (t' := .lst us') (o' := .lst os') e1 hg sa ⟨_, upd_same, q1.mono (keep_upd nd) fun b z => .inl z⟩
              exact h w _ (S.trans (step_change e1 hg sa)) Rc.1 (q2.mono (D' := Dof D0 (env1.set i (some (g, T.lst us'))) σ) (keep_upd nd) fun b z => .inl ((Rc.2 b).mp z))
          · exact h.elim
        · exact h.elim
      · exact h.elim
  unfold mutS at h
  split at h
  · rename_i us e; exact main _ us e (.inl rfl) h
  · rename_i us e; exact main _ us e (.inr rfl) h
  · exact h.elim
theorem rm_append {x : V} {vs : List V} {Q : VK} (h : rM K mg .append x vs H Q) : rAppend x vs H Q := by
  obtain ⟨D, a, os, ts, us, us', r, rfl, h1, nd, h2, h3, em, k⟩ := h
  unfold mutT at em
  split at em
  · rename_i z1 z2
    split at em
    · rename_i hl
      cases z2; cases em
      cases h3 with
      | cons r0 l0 =>
        cases l0
        exact ⟨a, os, _, rfl, rfl, h1, by rw [← h2.length]; exact lim_ltline hl, k _ _ (h2.append (.cons r0 .nil)) .non⟩
    · cases em
  all_goals first | contradiction | cases em
theorem rm_pop {x : V} {Q : VK} (h : rM K mg .pop x [] H Q) : rPop x [] H Q := by
  obtain ⟨D, a, os, ts, us, us', r, rfl, h1, nd, h2, h3, em, k⟩ := h
  cases h3
  obtain ⟨y, hy, z⟩ := Option.map_eq_some_iff.mp (show (us[us.length - 1]?).map _ = _ from em)
  cases z
  obtain ⟨w, hw, rw'⟩ := h2.get hy
  refine ⟨a, os, w, rfl, rfl, h1, by rw [← h2.length]; exact hw, k w _ ?_ rw'⟩
  rw [List.dropLast_eq_take, List.dropLast_eq_take, ← h2.length]
  exact h2.take _
theorem RepL.eraseIdx {ts : List T} {vs : List V} (h : RepL K mg H D ts vs) (n : Nat) : RepL K mg H D (ts.eraseIdx n) (vs.eraseIdx n) := by
  rw [List.eraseIdx_eq_take_drop_succ, List.eraseIdx_eq_take_drop_succ]
  exact (h.take n).append (h.drop (n + 1))
theorem rm_popAt {x w : V} {Q : VK} (h : rM K mg .pop x [w] H Q) : rPopAt x [w] H Q := by
  obtain ⟨D, a, os, ts, us, us', r, rfl, h1, nd, h2, h3, em, k⟩ := h
  cases h3 with
  | @cons t _ _ _ r0 l0 =>
    cases l0
    cases r0 with
    | int i =>
      have em : (if i = 0 then (us[0]?).map fun y => (T.lst (us.eraseIdx 0), y) else none) = some (.lst us', r) := em
      split at em
      · rename_i hi
        subst hi
        obtain ⟨y, hy, z⟩ := Option.map_eq_some_iff.mp em
        cases z
        obtain ⟨w, hw, rw'⟩ := h2.get hy
        refine ⟨a, os, 0, 0, w, rfl, rfl, h1, by decide, by decide, ?_, hw, k w _ (h2.eraseIdx 0) rw'⟩
        have : 0 < os.length := (List.getElem?_eq_some_iff.mp hw).1
        unfold seqIndex?
        simp [this]
      · cases em
    | _ => cases em
theorem rm_clear {x : V} {Q : VK} (h : rM K mg .clear x [] H Q) : rClear x [] H Q := by
  obtain ⟨D, a, os, ts, us, us', r, rfl, h1, nd, h2, h3, em, k⟩ := h
  cases h3
  cases em
  exact ⟨a, os, rfl, rfl, h1, k _ _ .nil .non⟩
end
end VL

set_option maxHeartbeats 2000000
namespace VL
open PySem PySem.Spec PyProof.Rows L2

/-! ### the same tracked slots -/
def SameTr (env : En) (σ : L2.St) (env' : En) (σ' : L2.St) : Prop := ∀ (i : Nat) (f : Fl) (t : T), f ≠ .sh →
  (env'[i]? = some (some (f, t)) → env[i]? = some (some (f, t)) ∧ σ'[i]? = σ[i]?) ∧ (env[i]? = some (some (f, t)) → env'[i]? = some (some (f, t)) ∧ σ'[i]? = σ[i]?)
theorem SameTr.symm {env env' : En} {σ σ' : L2.St} (h : SameTr env σ env' σ') : SameTr env' σ' env σ := fun i f t hf => ⟨fun e => let ⟨a, b⟩ := (h i f t hf).2 e; ⟨a, b.symm⟩, fun e => let ⟨a, b⟩ := (h i f t hf).1 e; ⟨a, b.symm⟩⟩
theorem notSh {f : Fl} (h : f = .own ∨ f = .lck ∨ f = .bor ∨ f = .io) : f ≠ .sh := by rcases h with rfl | rfl | rfl | rfl <;> decide
section
variable {K : PySem.W.Frag} {mg : Str → Option Value} {H0 H H1 H' : Hp} {D0 D Mu Mu' : Addr → Prop} {env env1 env' : En} {σ σ1 σ' : L2.St} {W : WX} {ts us : List T}
theorem SameTr.own (h : SameTr env σ env' σ') {a : Addr} (q : ownA env' σ' a) : ownA env σ a := by
  obtain ⟨i, f, t, e, hf, s⟩ := q
  obtain ⟨e', s'⟩ := (h i f t (notSh (by rcases hf with z | z <;> simp [z]))).1 e
  exact ⟨i, f, t, e', hf, s' ▸ s⟩
theorem SameTr.mut (h : SameTr env σ env' σ') {a : Addr} (q : mutA env' σ' a) : mutA env σ a := by
  obtain ⟨i, f, t, e, hf, s⟩ := q
  obtain ⟨e', s'⟩ := (h i f t (notSh (by rcases hf with z | z <;> simp [z]))).1 e
  exact ⟨i, f, t, e', hf, s' ▸ s⟩
theorem SameTr.par (h : SameTr env σ env' σ') {a : Addr} (q : parA env' σ' a) : parA env σ a := by
  obtain ⟨i, f, t, e, hf, s⟩ := q
  obtain ⟨e', s'⟩ := (h i f t (notSh (by rcases hf with z | z <;> simp [z]))).1 e
  exact ⟨i, f, t, e', hf, s' ▸ s⟩
theorem SameTr.dof (h : SameTr env σ env' σ') {a : Addr} : Dof D0 env' σ' a ↔ Dof D0 env σ a := ⟨fun q => q.imp id h.own, fun q => q.imp id h.symm.own⟩
theorem SameTr.step (h : SameTr env σ env' σ') : Step env σ H env' σ' H :=
  ⟨fun _ _ h _ => h, fun _ q => .inl (h.own q), fun _ q => .inl (h.mut q), fun i f t e hf => let ⟨a, b⟩ := (h i f t (notSh (by rcases hf with z | z | z <;> simp [z]))).2 e; ⟨b, t, a⟩, fun _ q => q, fun _ q => h.par q⟩
theorem SameTr.sr (h : SameTr env σ env' σ') (R : SR K mg D0 H env σ) (hl : env'.length = σ'.length)
    (hs : ∀ (i : Nat) (t : T), env'[i]? = some (some (.sh, t)) → ∃ v : V, σ'[i]? = some (some v) ∧ Rep K mg H (Dof D0 env σ) t v) : SR K mg D0 H env' σ' := by
  refine ⟨hl, fun i t e => ?_, fun i f t e hf => ?_, fun i j f g t u a e1 e2 h1 h2 s1 s2 => ?_, R.dom⟩
  · obtain ⟨v, sv, r⟩ := hs i t e
    exact ⟨v, sv, r.mono (fun _ _ h _ => h) fun a q => .inl (h.dof.mp q)⟩
  · obtain ⟨e', s'⟩ := (h i f t hf).1 e
    obtain ⟨a, sa, r, c⟩ := R.top i f t e' hf
    exact ⟨a, s'.trans sa, r.mono (fun _ _ h _ => h) (fun a q => .inl (h.dof.mp q)) rfl, c⟩
  · obtain ⟨e1', s1'⟩ := (h i f t h1).1 e1
    obtain ⟨e2', s2'⟩ := (h j g u h2).1 e2
    exact R.inj i j f g t u a e1' e2' h1 h2 (s1' ▸ s1) (s2' ▸ s2)

/-! ### a block's own names -/
theorem wipeE_get : ∀ (L : List Nat) (env : En) (i : Nat), (wipeE env L)[i]? = if i ∈ L then env[i]?.map fun _ => none else env[i]?
  | [], env, i => by simp [wipeE]
  | k :: ks, env, i => by
    unfold wipeE
    by_cases h : i = k
    · subst h
      rw [if_pos (by simp), List.getElem?_set_self']
      rw [wipeE_get ks env i]
      split <;> cases env[i]? <;> rfl
    · rw [List.getElem?_set_ne (Ne.symm h), wipeE_get ks env i]
      simp [h]
theorem wipe_get : ∀ (L : List Nat) (σ : L2.St) (i : Nat), (wipe σ L)[i]? = if i ∈ L then σ[i]?.map fun _ => none else σ[i]?
  | [], σ, i => by simp [wipe]
  | k :: ks, σ, i => by
    unfold wipe
    by_cases h : i = k
    · subst h
      rw [if_pos (by simp), List.getElem?_set_self']
      rw [wipe_get ks σ i]
      split <;> cases σ[i]? <;> rfl
    · rw [List.getElem?_set_ne (Ne.symm h), wipe_get ks σ i]
      simp [h]
theorem backE_get (old : En) : ∀ (L : List Nat) (env : En) (i : Nat), (backE old env L)[i]? = if i ∈ L then env[i]?.map fun _ => old.getD i none else env[i]?
  | [], env, i => by simp [backE]
  | k :: ks, env, i => by
    unfold backE
    by_cases h : i = k
    · subst h
      rw [if_pos (by simp), List.getElem?_set_self']
      rw [backE_get old ks env i]
      split <;> cases env[i]? <;> rfl
    · rw [List.getElem?_set_ne (Ne.symm h), backE_get old ks env i]
      simp [h]
theorem wipeE_length (env : En) : ∀ L : List Nat, (wipeE env L).length = env.length
  | [] => rfl
  | k :: ks => by unfold wipeE; rw [List.length_set, wipeE_length env ks]
theorem backE_length (old env : En) : ∀ L : List Nat, (backE old env L).length = env.length
  | [] => rfl
  | k :: ks => by unfold backE; rw [List.length_set, backE_length old env ks]
def allSh (env : En) (own : List Nat) : Prop := ∀ i ∈ own, shNone (env.getD i none) = true
theorem allSh.not {env : En} {own : List Nat} {i : Nat} {f : Fl} {t : T} (hi : i ∈ own) (h : allSh env own) (e : env[i]? = some (some (f, t))) : f = .sh := by
  have := h i hi
  rw [List.getD_eq_getElem?_getD, e] at this
  cases f <;> first | rfl | (cases this)
theorem wipeM_is {own : List Nat} (h : wipeM own env ≠ .stuck) : allSh env own ∧ wipeM own env = .ok () (wipeE env own) := by
  unfold wipeM at h ⊢
  split at h
  · rename_i hc
    rw [if_pos hc]
    exact ⟨fun i hi => List.all_eq_true.mp hc i hi, rfl⟩
  · exact absurd rfl h
theorem wipe_tr {own : List Nat} (h : allSh env own) : SameTr env σ (wipeE env own) (wipe σ own) := by
  intro i f t hf
  constructor
  · intro e
    rw [wipeE_get] at e
    split at e
    · cases q : env[i]? with
      | none => rw [q] at e; cases e
      | some s => rw [q] at e; cases e
    · rename_i hi
      exact ⟨e, by rw [wipe_get, if_neg hi]⟩
  · intro e
    have hi : i ∉ own := fun hi => by
      have := h i hi
      rw [List.getD_eq_getElem?_getD, e] at this
      cases f <;> first | exact hf rfl | cases this
    exact ⟨by rw [wipeE_get, if_neg hi]; exact e, by rw [wipe_get, if_neg hi]⟩
theorem wipe_sr {own : List Nat} (R : SR K mg D0 H env σ) (h : allSh env own) : SR K mg D0 H (wipeE env own) (wipe σ own) :=
  (wipe_tr h).sr R (by rw [wipeE_length, wipe_length, R.len]) fun i t e => by
    rw [wipeE_get] at e
    split at e
    · cases q : env[i]? with
      | none => rw [q] at e; cases e
      | some s => rw [q] at e; cases e
    · rename_i hi
      obtain ⟨v, sv, r⟩ := R.sh i t e
      exact ⟨v, by rw [wipe_get, if_neg hi]; exact sv, r⟩
theorem wipe_eq {own : List Nat} (hl : σ'.length = σ.length) (h : ∀ i, i ∉ own → σ'[i]? = σ[i]?) : wipe σ' own = wipe σ own := by
  refine List.ext_getElem? fun i => ?_
  rw [wipe_get, wipe_get]
  split
  · by_cases z : i < σ.length
    · rw [List.getElem?_eq_getElem z, List.getElem?_eq_getElem (hl ▸ z)]; rfl
    · rw [List.getElem?_eq_none (by omega), List.getElem?_eq_none (by omega)]
  · rename_i hi; exact h i hi
/-- the block's end: its own names as they were -/
theorem back_tr {own : List Nat} {old : En} (ho : allSh old own) (hw : ∀ i ∈ own, ∀ s, env[i]? ≠ some (some s)) (hσ : σ' = wipe σ own) (hl : env.length = σ.length) : SameTr env σ' (backE old env own) σ := by
  subst hσ
  intro i f t hf
  constructor
  · intro e
    rw [backE_get] at e
    split at e
    · rename_i hi
      cases q : env[i]? with
      | none => rw [q] at e; cases e
      | some s =>
        rw [q] at e
        have e : some (old.getD i none) = some (some (f, t)) := e
        have := ho i hi
        rw [Option.some.inj e] at this
        cases f <;> first | exact absurd rfl hf | cases this
    · rename_i hi
      exact ⟨e, by rw [wipe_get, if_neg hi]⟩
  · intro e
    have hi : i ∉ own := fun hi => hw i hi _ e
    exact ⟨by rw [backE_get, if_neg hi]; exact e, by rw [wipe_get, if_neg hi]⟩
/-- a write to an object kept apart that no slot holds -/
theorem SR.out {a : Addr} {o : HO} (R : SR K mg D0 H env σ) (ha : D0 a) (hp : ¬ parA env σ a) : SR K mg D0 (upd H a o) env σ := by
  refine ⟨R.len, fun i t e => ?_, fun i f t e hf => ?_, R.inj, fun b hb => ?_⟩
  · obtain ⟨v, sv, r⟩ := R.sh i t e
    exact ⟨v, sv, r.mono (keep_upd (.inl ha)) fun b z => .inl z⟩
  · obtain ⟨b, sb, r, c1, c2⟩ := R.top i f t e hf
    refine ⟨b, sb, r.mono (keep_upd (.inl ha)) (fun b z => .inl z) (upd_ne fun z => ?_), c1, c2⟩
    subst z
    cases f with
    | sh => exact hf rfl
    | own => exact c1 (.inl rfl) ha
    | lck => exact c1 (.inr rfl) ha
    | bor => exact hp ⟨i, _, t, e, .inl rfl, sb⟩
    | io => exact hp ⟨i, _, t, e, .inr rfl, sb⟩
  · by_cases z : b = a
    · subst z; rw [upd_same]; exact fun z => nomatch z
    · rw [upd_ne z]; exact R.dom b hb
theorem Step.out {a : Addr} {o : HO} (S : Step env σ H env' σ' H') (hn : H a = none) : Step env σ H env' σ' (upd H' a o) :=
  ⟨fun b u h n => by rw [upd_ne (fun z => by rw [z, hn] at h; cases h)]; exact S.keep b u h n, S.own, S.mu, S.par, fun b h => by rw [upd_ne (fun z => h (by rw [z]; exact hn))]; exact S.dom b h, S.back⟩
theorem not_mut {a : Addr} (R : SR K mg D0 H env σ) (ha : D0 a) (hp : ¬ parA env σ a) : ¬ mutA env σ a := by
  rintro ⟨i, f, t, e, hf, s⟩
  rcases hf with rfl | rfl
  · obtain ⟨b, sb, _, c1, _⟩ := R.top i _ t e (by decide)
    rw [s] at sb; cases sb
    exact c1 (.inl rfl) ha
  · exact hp ⟨i, _, t, e, .inr rfl, s⟩

def W0 : WX := fun _ _ _ _ => False
def ttC (K : PySem.W.Frag) (mg : Str → Option Value) : Option (M Bool) → TT
  | none => tYes
  | some c => fun σ H Q => ∃ D1, tB K mg D1 W0 c σ H Q
theorem lcL_start {own : List Nat} {asg : T → M Unit} {cond : Option (M Bool)} {elt : M Out} {acc ts : List T} {tsF : List T} {envF : En} (h : lcL own asg cond elt acc ts env = .ok tsF envF) : allSh env own ∧ wipeM own env = .ok () (wipeE env own) := by
  refine wipeM_is fun z => ?_
  cases ts with
  | nil => simp only [lcL, z, bind_stuck] at h; cases h
  | cons t ts => simp only [lcL, z, bind_stuck] at h; cases h
theorem lc_imp {it : M (List T × List Nat)} {asg : T → M Unit} {cond : Option (M Bool)} {elt : M Out} {own sl : List Nat} (hsl : ∀ i ∈ sl, i ∈ own) {Q : VK}
    (h : tR K mg D0 W (OutR K mg D0) (fun env => (it env).bind fun w env1 => (inBlk own (lcL own asg cond elt [] w.1) (lock env1 w.2)).bind fun ts env2 => .ok (.own (.lst ts)) (unlock env2 w.2)) σ H Q) :
    tLc (tI K mg D0 W it) (fun v σ H Q => ∃ D1, tG K mg D1 W0 sl asg v σ H Q) (ttC K mg cond) (fun σ H Q => ∃ D1, tR K mg D1 W0 (OutR K mg D1) elt σ H Q) own σ H Q := by
  obtain ⟨env, R, h⟩ := h
  refine ⟨env, R, ?_⟩
  cases e : it env with
  | stuck => simp only [e, bind_stuck] at h; exact h
  | exc x env1 => simp only [e, bind_exc] at h; exact h
  | ok w env1 =>
    obtain ⟨ts, L⟩ := w
    simp only [e, bind_ok] at h
    intro J H1 S R1 lk wk Dl hDl
    obtain ⟨G, Y, wlk, hg, hy⟩ := wk
    unfold inBlk at h
    split at h
    case isFalse => exact h.elim
    rename_i hall
    have sh0 : allSh (lock env1 L) own := fun i hi => List.all_eq_true.mp hall i hi
    cases em : lcL own asg cond elt [] ts (lock env1 L) with
    | stuck => rw [em] at h; exact h.elim
    | exc x e2 => rw [em] at h; exact h.elim
    | ok tsF envF =>
      rw [em] at h
      simp only [bind_ok] at h
      have RL : SR K mg D0 H1 (lock env1 L) σ := lock_sr L R1
      have RW := wipe_sr RL sh0
      have nD : ¬ D0 Dl := fun z => R1.dom Dl z hDl
      have mle : ∀ a, mutA (wipeE (lock env1 L) own) (wipe σ own) a → Dof D0 env1 σ a := fun a q => R1.mut (mut_lock ((wipe_tr sh0).mut q))
      have ole : ∀ a, ownA (wipeE (lock env1 L) own) (wipe σ own) a → Dof D0 env1 σ a := fun a q => .inr (own_lock.mp ((wipe_tr sh0).own q))
      have npar : ∀ {e0 : En} {σ0 : L2.St} {H' : Hp}, Step (wipeE (lock env1 L) own) (wipe σ own) H1 e0 σ0 H' → ¬ parA e0 σ0 Dl := fun {e0 σ0 H'} S q => by
        obtain ⟨i, f, t, ei, hf, s⟩ := S.back _ q
        obtain ⟨b, sb, _, _, c2⟩ := RW.top i f t ei (by rcases hf with rfl | rfl <;> decide)
        rw [s] at sb; cases sb
        exact nD (c2 hf)
      let Pv : Nat → Hp → Prop := fun i H' => ∃ (e e0 : En) (acc : List V) (accT : List T), wipeM own e = .ok () e0 ∧ SR K mg (orA D0 Dl) H' e0 (wipe σ own) ∧ Step (wipeE (lock env1 L) own) (wipe σ own) H1 e0 (wipe σ own) H' ∧ H' Dl = some (.lst acc) ∧
        RepL K mg H' (Dof (orA D0 Dl) e0 (wipe σ own)) accT acc ∧ lcL own asg cond elt accT (ts.drop i) e = .ok tsF envF
      refine lc_it (g := fun v σ H Q => ∃ D1, tG K mg D1 W0 sl asg v σ H Q) (tt := ttC K mg cond) (te := fun σ H Q => ∃ D1, tR K mg D1 W0 (OutR K mg D1) elt σ H Q) (vs := own) (σ := σ) (H1 := H1) (D := Dl) (Qd := fun H => Q (.ref Dl) H) wlk Pv ?_ (fun i H' _ ⟨e, e0, acc, accT, _, _, S0, _⟩ => hg H' fun a o ha n => S0.keep a o ha fun z => n ((wipe_tr sh0).mut z)) ?_ ?_
      · refine ⟨lock env1 L, wipeE (lock env1 L) own, [], [], (lcL_start em).2, RW.ext (same_upd hDl) hDl (by rw [upd_same]; exact fun z => nomatch z), Step.grow (same_upd hDl), upd_same, .nil, em⟩
      · rintro i x H' H'' hi ⟨e, e0, acc, accT, ew, Re, S0, hl, ra, el⟩ y
        obtain ⟨t, ht⟩ : ∃ t, ts[i]? = some t := ⟨ts[i], by simp [hi]⟩
        have hd : ts.drop i = t :: ts.drop (i + 1) := by
          rw [List.drop_eq_getElem_cons hi]
          rw [List.getElem?_eq_getElem hi] at ht
          cases ht; rfl
        have dD : ∀ a, Dof (orA D0 Dl) e0 (wipe σ own) a → Dof D0 env1 σ a ∨ H1 a = none := fun a z => by
          rcases z with (z | z) | z
          · exact .inl (.inl z)
          · exact .inr (by rw [z]; exact hDl)
          · exact (S0.own a z).imp (ole a) id
        obtain ⟨s2, rx⟩ := hy i t H' x H'' _ ht (fun a o ha n => S0.keep a o ha fun z => n (mle a z)) dD Re.d2 y
        have hl2 : H'' Dl = some (.lst acc) := s2 _ _ hl
        have ra2 : RepL K mg H'' (Dof (orA D0 Dl) e0 (wipe σ own)) accT acc := ra.mono (fun a o ha _ => s2 a o ha) fun a z => .inl z
        have Re2 := Re.same s2
        have St2 := S0.trans (Step.grow s2)
        rw [hd] at el
        simp only [lcL, ew, bind_ok] at el
        refine ⟨orA D0 Dl, e0, t, Re2, rx, ?_⟩
        cases ea : asg t e0 with
        | stuck => simp only [ea, bind_stuck] at el; cases el
        | exc x e1 => simp only [ea, bind_exc] at el; cases el
        | ok u e1 =>
          simp only [ea, bind_ok] at el
          intro σ2 H2 Sa Ra hs
          have hw : wipe σ2 own = wipe (wipe σ own) own := wipe_eq hs.1 fun i hi => hs.2 i fun z => hi (hsl i z)
          have hww : wipe (wipe σ own) own = wipe σ own := wipe_eq (wipe_length σ own) fun i hi => by rw [wipe_get, if_neg hi]
          refine ⟨hw.trans hww, ?_⟩
          have Sa2 := St2.trans Sa
          have hl3 : H2 Dl = some (.lst acc) := Sa.keep _ _ hl2 (not_mut Re2 (.inr rfl) (npar St2))
          have ra3 := Step.repL Re2 Sa ra2
          have fin : ∀ {e3 : En} {H3 : Hp} {acc' : List V} {accT' : List T}, Step (wipeE (lock env1 L) own) (wipe σ own) H1 e3 σ2 H3 → SR K mg (orA D0 Dl) H3 e3 σ2 → H3 Dl = some (.lst acc') → RepL K mg H3 (Dof (orA D0 Dl) e3 σ2) accT' acc' →
              lcL own asg cond elt accT' (ts.drop (i + 1)) e3 = .ok tsF envF → Pv (i + 1) H3 := fun {e3 H3 acc' accT'} S3 R3 h3 r3 l3 => by
            obtain ⟨a3, w3⟩ := lcL_start l3
            have tr := wipe_tr (σ := σ2) a3
            have rw3 := wipe_sr R3 a3
            have st3 := S3.trans (SameTr.step (H := H3) tr)
            rw [hw, hww] at tr rw3 st3
            exact ⟨e3, wipeE e3 own, acc', accT', w3, rw3, st3, h3, r3.mono (fun _ _ h _ => h) (fun a z => .inl (tr.dof.mp z)), l3⟩
          have fin2 : ∀ {e2 : En} {H3 : Hp}, Step (wipeE (lock env1 L) own) (wipe σ own) H1 e2 σ2 H3 → SR K mg (orA D0 Dl) H3 e2 σ2 → H3 Dl = some (.lst acc) → RepL K mg H3 (Dof (orA D0 Dl) e2 σ2) accT acc →
              ((elt e2).bind fun o env2 => if accT.length < LIM then lcL own asg cond elt (accT ++ [o.t]) (ts.drop (i + 1)) env2 else .stuck) = .ok tsF envF →
              (∃ D1, tR K mg D1 W0 (OutR K mg D1) elt σ2 H3 fun y H4 => ∃ acc, H4 Dl = some (.lst acc) ∧ acc.length < sizeLine ∧ Pv (i + 1) (upd H4 Dl (.lst (acc ++ [y])))) := fun {e2 H3} S3 R3 h3 r3 l3 => by
            refine ⟨orA D0 Dl, e2, R3, ?_⟩
            cases ee : elt e2 with
            | stuck => simp only [ee, bind_stuck] at l3; cases l3
            | exc x e1 => simp only [ee, bind_exc] at l3; cases l3
            | ok o e3 =>
              simp only [ee, bind_ok] at l3
              split at l3
              · rename_i hlen
                intro y H4 S4 R4 ho
                have h4 : H4 Dl = some (.lst acc) := S4.keep _ _ h3 (not_mut R3 (.inr rfl) (npar S3))
                have r4 := Step.repL R3 S4 r3
                have ry := ho.rep R3.dom
                have S5 := S3.trans S4
                have iD : Dof (orA D0 Dl) e3 σ2 Dl := .inl (.inr rfl)
                refine ⟨acc, h4, by rw [← r4.length]; exact lim_ltline hlen, ?_⟩
                exact fin (S5.out hDl) (R4.out (.inr rfl) (npar S5)) upd_same ((r4.append (.cons ry .nil)).mono (keep_upd iD) fun b z => .inl z) l3
              · cases l3
          cases cond with
          | none =>
            simp only at el
            unfold ttC tYes
            dsimp only
            rw [if_pos rfl]
            exact fin2 Sa2 Ra hl3 ra3 el
          | some c =>
            simp only at el
            refine ⟨orA D0 Dl, e1, Ra, ?_⟩
            cases ec : c e1 with
            | stuck => simp only [ec, bind_stuck] at el; cases el
            | exc x e1 => simp only [ec, bind_exc] at el; cases el
            | ok b e2 =>
              simp only [ec, bind_ok] at el
              intro H3 Sc Rc
              have hl4 : H3 Dl = some (.lst acc) := Sc.keep _ _ hl3 (not_mut Ra (.inr rfl) (npar Sa2))
              have ra4 := Step.repL Ra Sc ra3
              cases b with
              | true =>
                rw [if_pos rfl] at el ⊢
                exact fin2 (Sa2.trans Sc) Rc hl4 ra4 el
              | false =>
                rw [if_neg Bool.false_ne_true] at el ⊢
                exact fin (Sa2.trans Sc) Rc hl4 ra4 el
      · rintro H' ⟨e, e0, acc, accT, ew, Re, S0, hl, ra, el⟩
        rw [List.drop_length] at el
        simp only [lcL, ew, bind_ok] at el
        cases el
        obtain ⟨ae, we⟩ := wipeM_is (env := e) (own := own) (by rw [ew]; exact fun z => nomatch z)
        have ee : envF = wipeE e own := by rw [ew] at we; cases we; rfl
        have hw : ∀ i ∈ own, ∀ s, envF[i]? ≠ some (some s) := fun i hi s => by
          rw [ee, wipeE_get, if_pos hi]
          cases e[i]? <;> exact fun z => nomatch z
        have hlen : envF.length = σ.length := by rw [Re.len, wipe_length]
        have tr := back_tr (σ := σ) sh0 hw rfl hlen
        have tr0 := wipe_tr (σ := σ) sh0
        have SL : Step (lock env1 L) σ H1 (backE (lock env1 L) envF own) σ H' := ((SameTr.step tr0).trans S0).trans (SameTr.step tr)
        have SU := step_unlock lk SL
        have hk : ∀ a o, H1 a = some o → ¬ Dof D0 env1 σ a → H' a = some o := fun a o ha n => S0.keep a o ha fun z => n (mle a z)
        have RB : SR K mg (orA D0 Dl) H' (backE (lock env1 L) envF own) σ := tr.sr Re (by rw [backE_length]; exact hlen) fun i t ei => by
          rw [backE_get] at ei
          split at ei
          · cases q : envF[i]? with
            | none => rw [q] at ei; cases ei
            | some s =>
              rw [q] at ei
              have ei : some ((lock env1 L).getD i none) = some (some (.sh, t)) := ei
              have ei : (lock env1 L)[i]? = some (some (.sh, t)) := by
                rw [List.getD_eq_getElem?_getD] at ei
                cases q2 : (lock env1 L)[i]? with
                | none => rw [q2] at ei; cases ei
                | some s2 => rw [q2] at ei; exact ei
              obtain ⟨v, sv, r⟩ := RL.sh i t ei
              refine ⟨v, sv, r.mono (fun a o ha n => hk a o ha fun z => n (dof_lock.mpr z)) fun a z => ?_⟩
              rcases z with (z | z) | z
              · exact .inl (.inl z)
              · exact .inr (by rw [z]; exact hDl)
              · exact (S0.own a z).imp (fun q => .inr (tr0.own q)) id
          · rename_i hi
            obtain ⟨v, sv, r⟩ := Re.sh i t ei
            exact ⟨v, by rw [wipe_get, if_neg hi] at sv; exact sv, r⟩
        have RU := unlock_sr L RB
        have np : ¬ parA (unlock (backE (lock env1 L) envF own) L) σ Dl := fun q => by
          obtain ⟨i, f, t, ei, hf, s⟩ := SU.back _ q
          obtain ⟨b, sb, _, _, c2⟩ := R1.top i f t ei (by rcases hf with rfl | rfl <;> decide)
          rw [s] at sb; cases sb
          exact nD (c2 hf)
        refine h _ H' (S.trans SU) (RU.unext fun i f t ei hf s => np ⟨i, f, t, ei, hf, s⟩) ⟨Dl, rfl, none_of S.dom hDl, RU, _, hl, ra.mono (fun _ _ h _ => h) fun a z => .inl ?_⟩
        exact tr.dof.mp (dof_unlock.mp z)
end
end VL

set_option maxHeartbeats 2000000
namespace VL
open PySem PySem.Spec PyProof.Rows L2

section
variable {K : PySem.W.Frag} {mg : Str → Option Value} {H0 H H1 H' : Hp} {D0 D : Addr → Prop} {env env1 env' : En} {σ σ1 σ' : L2.St} {W : WX} {ts us : List T}
theorem cst_imp {t : T} {v : V} {Q : VK} (r : ∀ H D, Rep K mg H D t v) (h : tR K mg D0 W (OutR K mg D0) (fun env => .ok (.val t) env) σ H Q) : tC v σ H Q := by
  obtain ⟨env, R, h⟩ := h
  exact h v H Step.refl R (r _ _)
theorem vals_nil_imp {Q : List V → Hp → Prop} (h : tA K mg D0 W (ValsR K mg D0) (vals []) σ H Q) : tNil σ H Q := by
  obtain ⟨env, R, h⟩ := h
  exact h [] H Step.refl R .nil
theorem vals_cons_imp {m : M Out} {ms : List (M Out)} {Q : List V → Hp → Prop} (h : tA K mg D0 W (ValsR K mg D0) (vals (m :: ms)) σ H Q) :
    tCons (tR K mg D0 W (OutR K mg D0) m) (tA K mg D0 W (ValsR K mg D0) (vals ms)) σ H Q := by
  obtain ⟨env, R, h⟩ := h
  refine ⟨env, R, ?_⟩
  cases e : m env with
  | stuck => simp only [vals, e, bind_stuck] at h; exact h
  | exc x env1 => simp only [vals, e, bind_exc] at h; exact h
  | ok o env1 =>
    simp only [vals, e, bind_ok] at h
    intro v H1 S R1 ho
    refine ⟨env1, R1, ?_⟩
    cases e2 : vals ms env1 with
    | stuck => simp only [e2, bind_stuck] at h; exact h
    | exc x env2 => simp only [e2, bind_exc] at h; exact XPost.back S h
    | ok os env2 =>
      simp only [e2, bind_ok] at h
      intro vs H2 S2 R2 hv
      exact h (v :: vs) H2 (S.trans S2) R2 (.cons (Step.rep R1 S2 (ho.rep R.dom)) hv)
theorem opnds_nil_imp {Q : List V → Hp → Prop} (h : tA K mg D0 W (OpdsR K mg D0) (opnds [] []) σ H Q) : tNil σ H Q := by
  obtain ⟨env, R, h⟩ := h
  exact h [] H Step.refl R .nil
theorem OpdL.cons {o : Opnd} {v : V} {os : List Opnd} {vs : List V} {Ha : Hp} (ho : OpdR K mg D0 o v Ha env σ H) (hv : OpdL K mg H (Dof D0 env σ) σ os vs) : OpdL K mg H (Dof D0 env σ) σ (o :: os) (v :: vs) := by
  cases o with
  | val t => exact .val ho hv
  | slot i => exact .slot ho hv
theorem row_imp {m : M Opnd} {ms : M (List Opnd)} {Q : List V → Hp → Prop} (h : tA K mg D0 W (OpdsR K mg D0) (fun env => (m env).bind fun o env1 => (ms env1).bind fun os env2 => .ok (o :: os) env2) σ H Q) :
    tCons (tR K mg D0 W (OpdR K mg D0) m) (tA K mg D0 W (OpdsR K mg D0) ms) σ H Q := by
  obtain ⟨env, R, h⟩ := h
  refine ⟨env, R, ?_⟩
  cases e : m env with
  | stuck => simp only [e, bind_stuck] at h; exact h
  | exc x env1 => simp only [e, bind_exc] at h; exact h
  | ok o env1 =>
    simp only [e, bind_ok] at h
    intro v H1 S R1 ho
    refine ⟨env1, R1, ?_⟩
    cases e2 : ms env1 with
    | stuck => simp only [e2, bind_stuck] at h; exact h
    | exc x env2 => simp only [e2, bind_exc] at h; exact XPost.back S h
    | ok os env2 =>
      simp only [e2, bind_ok] at h
      intro vs H2 S2 R2 hv
      exact h (v :: vs) H2 (S.trans S2) R2 (OpdL.cons (ho.step (Hb := H2) R1 S2) hv)
/-- an argument that goes on -/
theorem es_imp {m : M Out} {ms : M (List Opnd)} {Q : List V → Hp → Prop} (h : tA K mg D0 W (OpdsR K mg D0) (fun env => (m env).bind fun o env1 => (ms env1).bind fun os env2 => .ok (Opnd.val o.t :: os) env2) σ H Q) :
    tCons (tR K mg D0 W (OutR K mg D0) m) (tA K mg D0 W (OpdsR K mg D0) ms) σ H Q := by
  obtain ⟨env, R, h⟩ := h
  refine ⟨env, R, ?_⟩
  cases e : m env with
  | stuck => simp only [e, bind_stuck] at h; exact h
  | exc x env1 => simp only [e, bind_exc] at h; exact h
  | ok o env1 =>
    simp only [e, bind_ok] at h
    intro v H1 S R1 ho
    refine ⟨env1, R1, ?_⟩
    cases e2 : ms env1 with
    | stuck => simp only [e2, bind_stuck] at h; exact h
    | exc x env2 => simp only [e2, bind_exc] at h; exact XPost.back S h
    | ok os env2 =>
      simp only [e2, bind_ok] at h
      intro vs H2 S2 R2 hv
      exact h (v :: vs) H2 (S.trans S2) R2 (.val (Step.rep R1 S2 (ho.rep R.dom)) hv)
theorem not_imp {m : M Opnd} {Q : VK} (h : tR K mg D0 W (OutR K mg D0) (un1 m fun t => match t with
    | .bl b => some (.val (.bl (!b)))
    | _ => none) σ H Q) : tNotV (tR K mg D0 W (OpdR K mg D0) m) σ H Q := by
  obtain ⟨env, R, h⟩ := un1_imp h
  refine ⟨env, R, ?_⟩
  revert h
  cases m env with
  | stuck => exact id
  | exc x e => exact id
  | ok o e =>
    intro h v H1 S R1 ho
    obtain ⟨D, t, _, r, p⟩ := h v H1 S R1 ho
    cases t with
    | bl b => exact ⟨b, r.bl, p.of_val (.bl _)⟩
    | _ => obtain ⟨out, z, _⟩ := p; cases z
theorem and_imp {m : M Opnd} {n : M Out} {Q : VK} (h : tR K mg D0 W (OutR K mg D0) (fun env => (m env).bind fun x env1 => match opT env1 x with
      | some (.bl k) => if k then n env1 else .ok (.val (.bl false)) env1
      | _ => .stuck) σ H Q) : tAndV (tR K mg D0 W (OpdR K mg D0) m) (tR K mg D0 W (OutR K mg D0) n) σ H Q := by
  obtain ⟨env, R, h⟩ := h
  refine ⟨env, R, ?_⟩
  cases e : m env with
  | stuck => simp only [e, bind_stuck] at h; exact h
  | exc x env1 => simp only [e, bind_exc] at h; exact h
  | ok o env1 =>
    simp only [e, bind_ok] at h
    intro v H1 S R1 ho
    split at h
    · rename_i k eo
      refine ⟨k, (ho.get R1 eo).bl, ?_⟩
      cases k with
      | true =>
        rw [if_pos rfl] at h ⊢
        refine ⟨env1, R1, ?_⟩
        cases e2 : n env1 with
        | stuck => rw [e2] at h; exact h
        | exc x env2 => rw [e2] at h; exact XPost.back S h
        | ok p env2 =>
          rw [e2] at h
          intro w H2 S2 R2 hp
          exact h w H2 (S.trans S2) R2 (hp.back S.dom)
      | false =>
        rw [if_neg Bool.false_ne_true] at h ⊢
        exact h _ H1 S R1 (.bl _)
    · exact h.elim
theorem or_imp {m : M Opnd} {n : M Out} {Q : VK} (h : tR K mg D0 W (OutR K mg D0) (fun env => (m env).bind fun x env1 => match opT env1 x with
      | some (.bl k) => if k then .ok (.val (.bl true)) env1 else n env1
      | _ => .stuck) σ H Q) : tOrV (tR K mg D0 W (OpdR K mg D0) m) (tR K mg D0 W (OutR K mg D0) n) σ H Q := by
  obtain ⟨env, R, h⟩ := h
  refine ⟨env, R, ?_⟩
  cases e : m env with
  | stuck => simp only [e, bind_stuck] at h; exact h
  | exc x env1 => simp only [e, bind_exc] at h; exact h
  | ok o env1 =>
    simp only [e, bind_ok] at h
    intro v H1 S R1 ho
    split at h
    · rename_i k eo
      refine ⟨k, (ho.get R1 eo).bl, ?_⟩
      cases k with
      | false =>
        rw [if_neg Bool.false_ne_true] at h ⊢
        refine ⟨env1, R1, ?_⟩
        cases e2 : n env1 with
        | stuck => rw [e2] at h; exact h
        | exc x env2 => rw [e2] at h; exact XPost.back S h
        | ok p env2 =>
          rw [e2] at h
          intro w H2 S2 R2 hp
          exact h w H2 (S.trans S2) R2 (hp.back S.dom)
      | true =>
        rw [if_pos rfl] at h ⊢
        exact h _ H1 S R1 (.bl _)
    · exact h.elim
/-- tests -/
theorem PB.back {Q : Bool → Hp → Prop} {r : Res Bool} (S : Step env σ H env1 σ H1) (h : PB K mg D0 W env σ H Q r) : PB K mg D0 W env1 σ H1 Q r := by
  cases r with
  | stuck => exact h
  | exc x e => exact XPost.back S h
  | ok b e => exact fun H' S' R' => h H' (S.trans S') R'
theorem tnot_imp {m : M Bool} {Q : Bool → Hp → Prop} (h : tB K mg D0 W (fun env => (m env).bind fun b env1 => .ok (!b) env1) σ H Q) : L2.tNot (tB K mg D0 W m) σ H Q := by
  obtain ⟨env, R, h⟩ := h
  refine ⟨env, R, ?_⟩
  cases e : m env with
  | stuck => simp only [e, bind_stuck] at h; exact h
  | exc x env1 => simp only [e, bind_exc] at h; exact h
  | ok b env1 => simp only [e, bind_ok] at h; exact h
theorem tand_imp {m n : M Bool} {Q : Bool → Hp → Prop} (h : tB K mg D0 W (fun env => (m env).bind fun k env1 => if k then n env1 else .ok false env1) σ H Q) : L2.tAnd (tB K mg D0 W m) (tB K mg D0 W n) σ H Q := by
  obtain ⟨env, R, h⟩ := h
  refine ⟨env, R, ?_⟩
  cases e : m env with
  | stuck => simp only [e, bind_stuck] at h; exact h
  | exc x env1 => simp only [e, bind_exc] at h; exact h
  | ok b env1 =>
    simp only [e, bind_ok] at h
    intro H1 S R1
    cases b with
    | true =>
      rw [if_pos rfl] at h ⊢
      exact ⟨env1, R1, PB.back S h⟩
    | false =>
      rw [if_neg Bool.false_ne_true] at h ⊢
      exact h H1 S R1
theorem tor_imp {m n : M Bool} {Q : Bool → Hp → Prop} (h : tB K mg D0 W (fun env => (m env).bind fun k env1 => if k then .ok true env1 else n env1) σ H Q) : L2.tOr (tB K mg D0 W m) (tB K mg D0 W n) σ H Q := by
  obtain ⟨env, R, h⟩ := h
  refine ⟨env, R, ?_⟩
  cases e : m env with
  | stuck => simp only [e, bind_stuck] at h; exact h
  | exc x env1 => simp only [e, bind_exc] at h; exact h
  | ok b env1 =>
    simp only [e, bind_ok] at h
    intro H1 S R1
    cases b with
    | true =>
      rw [if_pos rfl] at h ⊢
      exact h H1 S R1
    | false =>
      rw [if_neg Bool.false_ne_true] at h ⊢
      exact ⟨env1, R1, PB.back S h⟩
/-- a comparison's reading -/
abbrev rCmp (K : PySem.W.Frag) (mg : Str → Option Value) (op : CmpOp) : R2 := fun x y H Q => ∃ D t u, D2 D H ∧ RepP K mg H D t x ∧ RepP K mg H D u y ∧ ∃ b, cmpT op t u = some b ∧ Q (.bl b) H
theorem cmp_imp {op : CmpOp} {m n : M Opnd} {Q : VK} (h : tR K mg D0 W (OutR K mg D0) (un2 m n fun t u => (cmpT op t u).map fun r => .val (.bl r)) σ H Q) : tOp (rCmp K mg op) (tR K mg D0 W (OpdR K mg D0) m) (tR K mg D0 W (OpdR K mg D0) n) σ H Q := by
  obtain ⟨env, R, h⟩ := un2_imp h
  refine ⟨env, R, ?_⟩
  revert h
  cases m env with
  | stuck => exact id
  | exc x e => exact id
  | ok o e =>
    intro h v H1 S R1 ho
    obtain ⟨env1, R1', h⟩ := h v H1 S R1 ho
    refine ⟨env1, R1', ?_⟩
    revert h
    cases n env1 with
    | stuck => exact id
    | exc x e => exact id
    | ok o e =>
      intro h w H2 S2 R2 hp
      obtain ⟨D, t, u, d2, r1, r2, p⟩ := h w H2 S2 R2 hp
      cases ec : cmpT op t u with
      | none => rw [ec] at p; obtain ⟨out, z, _⟩ := p; cases z
      | some b => rw [ec] at p; exact ⟨D, t, u, d2, r1, r2, b, ec, p.of_val (.bl _)⟩
theorem tcmp_imp {op : CmpOp} {m n : M Opnd} {Q : Bool → Hp → Prop} (h : tB K mg D0 W (bo2 m n (cmpT op)) σ H Q) : tTest (tOp (rCmp K mg op) (tR K mg D0 W (OpdR K mg D0) m) (tR K mg D0 W (OpdR K mg D0) n)) σ H Q := by
  obtain ⟨env, R, h⟩ := bo2_imp h
  refine ⟨env, R, ?_⟩
  revert h
  cases m env with
  | stuck => exact id
  | exc x e => exact id
  | ok o e =>
    intro h v H1 S R1 ho
    obtain ⟨env1, R1', h⟩ := h v H1 S R1 ho
    refine ⟨env1, R1', ?_⟩
    revert h
    cases n env1 with
    | stuck => exact id
    | exc x e => exact id
    | ok o e =>
      intro h w H2 S2 R2 hp
      obtain ⟨D, t, u, d2, r1, r2, b, eb, q⟩ := h w H2 S2 R2 hp
      exact ⟨D, t, u, d2, r1, r2, b, eb, b, rfl, q⟩
theorem isN_imp {m : M Opnd} {Q : VK} (h : tR K mg D0 W (OutR K mg D0) (un1 m fun t => some (.val (.bl (match t with
    | .non => true
    | _ => false)))) σ H Q) : tIsN (tR K mg D0 W (OpdR K mg D0) m) σ H Q := by
  obtain ⟨env, R, h⟩ := un1_imp h
  refine ⟨env, R, ?_⟩
  revert h
  cases m env with
  | stuck => exact id
  | exc x e => exact id
  | ok o e =>
    intro h v H1 S R1 ho
    obtain ⟨D, t, _, r, p⟩ := h v H1 S R1 ho
    have p := p.of_val (w := .bl (decide (v = .non))) (by
      rw [r.isNon]
      cases t <;> exact .bl _)
    exact p
theorem notN_imp {m : M Opnd} {Q : VK} (h : tR K mg D0 W (OutR K mg D0) (un1 m fun t => some (.val (.bl (match t with
    | .non => false
    | _ => true)))) σ H Q) : tNotN (tR K mg D0 W (OpdR K mg D0) m) σ H Q := by
  obtain ⟨env, R, h⟩ := un1_imp h
  refine ⟨env, R, ?_⟩
  revert h
  cases m env with
  | stuck => exact id
  | exc x e => exact id
  | ok o e =>
    intro h v H1 S R1 ho
    obtain ⟨D, t, _, r, p⟩ := h v H1 S R1 ho
    have p := p.of_val (w := .bl (!decide (v = .non))) (by
      rw [r.isNon]
      cases t <;> exact .bl _)
    exact p
theorem tisN_imp {m : M Opnd} {Q : Bool → Hp → Prop} (h : tB K mg D0 W (bo1 m fun t => some (match t with
    | .non => true
    | _ => false)) σ H Q) : L2.tB (tIsN (tR K mg D0 W (OpdR K mg D0) m)) σ H Q := by
  obtain ⟨env, R, h⟩ := bo1_imp h
  refine ⟨env, R, ?_⟩
  revert h
  cases m env with
  | stuck => exact id
  | exc x e => exact id
  | ok o e =>
    intro h v H1 S R1 ho
    obtain ⟨D, t, _, r, b, eb, q⟩ := h v H1 S R1 ho
    refine ⟨_, rfl, ?_⟩
    rw [r.isNon]
    cases t <;> (cases eb; exact q)
theorem tnotN_imp {m : M Opnd} {Q : Bool → Hp → Prop} (h : tB K mg D0 W (bo1 m fun t => some (match t with
    | .non => false
    | _ => true)) σ H Q) : L2.tB (tNotN (tR K mg D0 W (OpdR K mg D0) m)) σ H Q := by
  obtain ⟨env, R, h⟩ := bo1_imp h
  refine ⟨env, R, ?_⟩
  revert h
  cases m env with
  | stuck => exact id
  | exc x e => exact id
  | ok o e =>
    intro h v H1 S R1 ho
    obtain ⟨D, t, _, r, b, eb, q⟩ := h v H1 S R1 ho
    refine ⟨_, rfl, ?_⟩
    rw [r.isNon]
    cases t <;> (cases eb; exact q)
theorem chain_imp {op op' : CmpOp} {m n k : M Opnd} {Q : VK} (h : tR K mg D0 W (OutR K mg D0) (fun env => (m env).bind fun x env1 => (n env1).bind fun y env2 => match (opT env2 x).bind fun t => (opT env2 y).bind fun u => cmpT op t u with
    | some true => (k env2).bind fun z env3 => optO ((opT env3 y).bind fun u => (opT env3 z).bind fun w => (cmpT op' u w).map fun r => .val (.bl r)) env3
    | some false => .ok (.val (.bl false)) env2
    | none => .stuck) σ H Q) : tChain (rCmp K mg op) (rCmp K mg op') (tR K mg D0 W (OpdR K mg D0) m) (tR K mg D0 W (OpdR K mg D0) n) (tR K mg D0 W (OpdR K mg D0) k) σ H Q := by
  obtain ⟨env, R, h⟩ := h
  refine ⟨env, R, ?_⟩
  cases e : m env with
  | stuck => simp only [e, bind_stuck] at h; exact h
  | exc x env1 => simp only [e, bind_exc] at h; exact h
  | ok o env1 =>
    simp only [e, bind_ok] at h
    intro v H1 S R1 ho
    refine ⟨env1, R1, ?_⟩
    cases e2 : n env1 with
    | stuck => simp only [e2, bind_stuck] at h; exact h
    | exc x env2 => simp only [e2, bind_exc] at h; exact XPost.back S h
    | ok p env2 =>
      simp only [e2, bind_ok] at h
      intro w H2 S2 R2 hp
      have ho2 := ho.step (Hb := H2) R1 S2
      cases eo : opT env2 o with
      | none => rw [eo] at h; exact h.elim
      | some t =>
        cases ep : opT env2 p with
        | none => rw [eo, ep] at h; exact h.elim
        | some u =>
          rw [eo, ep] at h
          simp only [Option.bind_some] at h
          refine ⟨_, t, u, R2.d2, ho2.get R2 eo, hp.get R2 ep, ?_⟩
          cases ec : cmpT op t u with
          | none => rw [ec] at h; exact h.elim
          | some b =>
            rw [ec] at h
            refine ⟨b, rfl, b, rfl, ?_⟩
            cases b with
            | false =>
              rw [if_neg Bool.false_ne_true]
              exact h _ H2 (S.trans S2) R2 (.bl _)
            | true =>
              rw [if_pos rfl]
              refine ⟨env2, R2, ?_⟩
              cases e3 : k env2 with
              | stuck => simp only [e3, bind_stuck] at h; exact h
              | exc x env3 => simp only [e3, bind_exc] at h; exact XPost.back (S.trans S2) h
              | ok q env3 =>
                simp only [e3, bind_ok] at h
                intro z H3 S3 R3 hq
                cases ep3 : opT env3 p with
                | none => rw [ep3] at h; exact h.elim
                | some u3 =>
                  cases eq3 : opT env3 q with
                  | none => rw [ep3, eq3] at h; exact h.elim
                  | some w3 =>
                    rw [ep3, eq3] at h
                    simp only [Option.bind_some] at h
                    refine ⟨_, u3, w3, R3.d2, (hp.step (Hb := H3) R2 S3).get R3 ep3, hq.get R3 eq3, ?_⟩
                    cases ec3 : cmpT op' u3 w3 with
                    | none => rw [ec3] at h; exact h.elim
                    | some b3 =>
                      rw [ec3] at h
                      exact ⟨b3, rfl, h _ H3 ((S.trans S2).trans S3) R3 (.bl _)⟩
theorem tchain_imp {op op' : CmpOp} {m n k : M Opnd} {Q : Bool → Hp → Prop} (h : tB K mg D0 W (fun env => (m env).bind fun x env1 => (n env1).bind fun y env2 => match (opT env2 x).bind fun t => (opT env2 y).bind fun u => cmpT op t u with
    | some true => (k env2).bind fun z env3 => optO ((opT env3 y).bind fun u => (opT env3 z).bind fun w => cmpT op' u w) env3
    | some false => .ok false env2
    | none => .stuck) σ H Q) : tTest (tChain (rCmp K mg op) (rCmp K mg op') (tR K mg D0 W (OpdR K mg D0) m) (tR K mg D0 W (OpdR K mg D0) n) (tR K mg D0 W (OpdR K mg D0) k)) σ H Q := by
  obtain ⟨env, R, h⟩ := h
  refine ⟨env, R, ?_⟩
  cases e : m env with
  | stuck => simp only [e, bind_stuck] at h; exact h
  | exc x env1 => simp only [e, bind_exc] at h; exact h
  | ok o env1 =>
    simp only [e, bind_ok] at h
    intro v H1 S R1 ho
    refine ⟨env1, R1, ?_⟩
    cases e2 : n env1 with
    | stuck => simp only [e2, bind_stuck] at h; exact h
    | exc x env2 => simp only [e2, bind_exc] at h; exact XPost.back S h
    | ok p env2 =>
      simp only [e2, bind_ok] at h
      intro w H2 S2 R2 hp
      have ho2 := ho.step (Hb := H2) R1 S2
      cases eo : opT env2 o with
      | none => rw [eo] at h; exact h.elim
      | some t =>
        cases ep : opT env2 p with
        | none => rw [eo, ep] at h; exact h.elim
        | some u =>
          rw [eo, ep] at h
          simp only [Option.bind_some] at h
          refine ⟨_, t, u, R2.d2, ho2.get R2 eo, hp.get R2 ep, ?_⟩
          cases ec : cmpT op t u with
          | none => rw [ec] at h; exact h.elim
          | some b =>
            rw [ec] at h
            refine ⟨b, rfl, b, rfl, ?_⟩
            cases b with
            | false =>
              rw [if_neg Bool.false_ne_true]
              exact ⟨false, rfl, h H2 (S.trans S2) R2⟩
            | true =>
              rw [if_pos rfl]
              refine ⟨env2, R2, ?_⟩
              cases e3 : k env2 with
              | stuck => simp only [e3, bind_stuck] at h; exact h
              | exc x env3 => simp only [e3, bind_exc] at h; exact XPost.back (S.trans S2) h
              | ok q env3 =>
                simp only [e3, bind_ok] at h
                intro z H3 S3 R3 hq
                cases ep3 : opT env3 p with
                | none => rw [ep3] at h; exact h.elim
                | some u3 =>
                  cases eq3 : opT env3 q with
                  | none => rw [ep3, eq3] at h; exact h.elim
                  | some w3 =>
                    rw [ep3, eq3] at h
                    simp only [Option.bind_some] at h
                    refine ⟨_, u3, w3, R3.d2, (hp.step (Hb := H3) R2 S3).get R3 ep3, hq.get R3 eq3, ?_⟩
                    cases ec3 : cmpT op' u3 w3 with
                    | none => rw [ec3] at h; exact h.elim
                    | some b3 =>
                      rw [ec3] at h
                      exact ⟨b3, rfl, b3, rfl, h H3 ((S.trans S2).trans S3) R3⟩
/-- parts of a slice -/
def PP (K : PySem.W.Frag) (mg : Str → Option Value) (D0 : Addr → Prop) (W : WX) (env : En) (σ : L2.St) (H : Hp) (Q : Option Int → Hp → Prop) : Res (Option Int) → Prop
  | .ok b env' => ∀ H', Step env σ H env' σ H' → SR K mg D0 H' env' σ → Q b H'
  | .exc x env' => XPost K mg D0 W env σ H x env'
  | .stuck => False
def tP (K : PySem.W.Frag) (mg : Str → Option Value) (D0 : Addr → Prop) (W : WX) (m : M (Option Int)) : TO := fun σ H Q => ∃ env, SR K mg D0 H env σ ∧ PP K mg D0 W env σ H Q (m env)
theorem PP.back {Q : Option Int → Hp → Prop} {r : Res (Option Int)} (S : Step env σ H env1 σ H1) (h : PP K mg D0 W env σ H Q r) : PP K mg D0 W env1 σ H1 Q r := by
  cases r with
  | stuck => exact h
  | exc x e => exact XPost.back S h
  | ok b e => exact fun H' S' R' => h H' (S.trans S') R'
theorem po_imp {X : Cx} {e : Option Expr} {t t' : TO} (h : PO X e t) (i : ∀ σ H Q, t' σ H Q → t σ H Q) : PO X e t' := ⟨fun pins s σ H Q I hw => h.run pins s σ H Q I (i σ H Q hw)⟩
theorem pnone_imp {Q : Option Int → Hp → Prop} (h : tP K mg D0 W (fun env => .ok none env) σ H Q) : tNoPart σ H Q := by
  obtain ⟨env, R, h⟩ := h
  exact h H Step.refl R
theorem psome_imp {m : M Opnd} {Q : Option Int → Hp → Prop} (h : tP K mg D0 W (fun env => (m env).bind fun x env1 => optO ((intO env1 x).map some) env1) σ H Q) : tPart (tR K mg D0 W (OpdR K mg D0) m) σ H Q := by
  obtain ⟨env, R, h⟩ := h
  refine ⟨env, R, ?_⟩
  cases e : m env with
  | stuck => simp only [e, bind_stuck] at h; exact h
  | exc x env1 => simp only [e, bind_exc] at h; exact h
  | ok o env1 =>
    simp only [e, bind_ok] at h
    intro v H1 S R1 ho
    cases ei : intO env1 o with
    | none => rw [ei] at h; exact h.elim
    | some i =>
      rw [ei] at h
      exact ⟨i, intO_is R1 ho ei, h H1 S R1⟩
abbrev rSl (K : PySem.W.Frag) (mg : Str → Option Value) : V → Option Int → Option Int → Hp → VK → Prop := fun x lo hi H Q => ∃ D t, D2 D H ∧ RepP K mg H D t x ∧ PureQ K mg D (slT t lo hi) H Q
theorem sl_imp {m : M Opnd} {lo hi : M (Option Int)} {Q : VK} (h : tR K mg D0 W (OutR K mg D0) (fun env => (m env).bind fun x env1 => (lo env1).bind fun l env2 => (hi env2).bind fun u env3 => optO ((opT env3 x).bind fun t => slT t l u) env3) σ H Q) :
    tSl (rSl K mg) (tR K mg D0 W (OpdR K mg D0) m) (tP K mg D0 W lo) (tP K mg D0 W hi) σ H Q := by
  obtain ⟨env, R, h⟩ := h
  refine ⟨env, R, ?_⟩
  cases e : m env with
  | stuck => simp only [e, bind_stuck] at h; exact h
  | exc x env1 => simp only [e, bind_exc] at h; exact h
  | ok o env1 =>
    simp only [e, bind_ok] at h
    intro v H1 S R1 ho
    refine ⟨env1, R1, ?_⟩
    cases e2 : lo env1 with
    | stuck => simp only [e2, bind_stuck] at h; exact h
    | exc x env2 => simp only [e2, bind_exc] at h; exact XPost.back S h
    | ok l env2 =>
      simp only [e2, bind_ok] at h
      intro H2 S2 R2
      refine ⟨env2, R2, ?_⟩
      cases e3 : hi env2 with
      | stuck => simp only [e3, bind_stuck] at h; exact h
      | exc x env3 => simp only [e3, bind_exc] at h; exact XPost.back (S.trans S2) h
      | ok u env3 =>
        simp only [e3, bind_ok] at h
        intro H3 S3 R3
        cases eo : opT env3 o with
        | none => rw [eo] at h; exact h.elim
        | some t =>
          rw [eo] at h
          exact ⟨_, t, R3.d2, ((ho.step (Hb := H2) R1 S2).step (Hb := H3) R2 S3).get R3 eo, fin_pure (o := slT t l u) ((S.trans S2).trans S3) R3 h⟩
theorem rev_imp {m : M Opnd} {Q : VK} (h : tR K mg D0 W (OutR K mg D0) (un1 m revT) σ H Q) : tRevL K (tR K mg D0 W (OpdR K mg D0) m) σ H Q := by
  obtain ⟨env, R, h⟩ := un1_imp h
  refine ⟨env, R, ?_⟩
  revert h
  cases m env with
  | stuck => exact id
  | exc x e => exact id
  | ok o e =>
    intro h v H1 S R1 ho
    obtain ⟨D, t, _, r, p⟩ := h v H1 S R1 ho
    obtain ⟨out, z, p⟩ := p
    cases t with
    | lst ts =>
      cases z
      obtain ⟨a, xs, rfl, h1, h2⟩ := r.lst
      exact ⟨a, xs, rfl, .inl (.inl h1), PureQ.lst h2.reverse p⟩
    | _ => cases z
theorem lst_imp {m : M (List T)} {Q : VK} (h : tR K mg D0 W (OutR K mg D0) (fun env => (m env).bind fun ts env1 => if ts.length ≤ LIM then .ok (.own (.lst ts)) env1 else .stuck) σ H Q) : tLst (tA K mg D0 W (ValsR K mg D0) m) σ H Q := by
  obtain ⟨env, R, h⟩ := h
  refine ⟨env, R, ?_⟩
  cases e : m env with
  | stuck => simp only [e, bind_stuck] at h; exact h
  | exc x env1 => simp only [e, bind_exc] at h; exact h
  | ok ts env1 =>
    simp only [e, bind_ok] at h
    intro vs H1 S R1 hv
    split at h
    · rename_i hl
      have hv : RepL K mg H1 (Dof D0 env1 σ) ts vs := hv
      refine ⟨by rw [← hv.length]; exact lim_line2 hl, PureQ.lst hv fun w H' s p => ?_⟩
      obtain ⟨S2, R2, q⟩ := OutP.outR R1 s p
      exact h w H' (S.trans S2) R2 (q.back S.dom)
    · exact h.elim
theorem tup_imp {m : M (List T)} {Q : VK} (h : tR K mg D0 W (OutR K mg D0) (fun env => (m env).bind fun ts env1 => if ts.length ≤ LIM then .ok (.val (.tup ts)) env1 else .stuck) σ H Q) : L2.tTup (tA K mg D0 W (ValsR K mg D0) m) σ H Q := by
  obtain ⟨env, R, h⟩ := h
  refine ⟨env, R, ?_⟩
  cases e : m env with
  | stuck => simp only [e, bind_stuck] at h; exact h
  | exc x env1 => simp only [e, bind_exc] at h; exact h
  | ok ts env1 =>
    simp only [e, bind_ok] at h
    intro vs H1 S R1 hv
    split at h
    · rename_i hl
      have hv : RepL K mg H1 (Dof D0 env1 σ) ts vs := hv
      refine ⟨by rw [← hv.length]; exact lim_line2 hl, PureQ.tup R1.d2 hv fun w H' s p => ?_⟩
      obtain ⟨S2, R2, q⟩ := OutP.outR R1 s p
      exact h w H' (S.trans S2) R2 (q.back S.dom)
    · exact h.elim
theorem new_imp {t : T} {o : HO} {Q : VK} (h : tR K mg D0 W (OutR K mg D0) (fun env => .ok (.own t) env) σ H Q) (r : ∀ (D : Addr → Prop) p, RepTop K mg (upd H p o) D t p) : ∀ p, H p = none → Q (.ref p) (upd H p o) := by
  obtain ⟨env, R, h⟩ := h
  intro p hp
  obtain ⟨S2, R2, q⟩ := OutP.outR (o := .own t) R (same_upd (o := o) hp) ⟨p, rfl, hp, r _ p⟩
  exact h _ _ S2 R2 q
theorem dicE_imp {i : Nat} {Q : VK} (h : tR K mg D0 W (OutR K mg D0) (fun env => match env[i]? with
    | some (some (.sh, .int k)) => .ok (.own (.dct [.int k] [.lst []])) env
    | _ => .stuck) σ H Q) : tDisp [(tVar i, tLst tNil)] σ H Q := by
  obtain ⟨env, R, h⟩ := h
  dsimp only at h
  split at h
  · rename_i k e
    obtain ⟨v, sv, rv⟩ := R.sh i _ e
    cases rv
    intro p hp
    refine ⟨_, sv, by simp [sizeLine_eq], fun q hq => ⟨?_, [(Sum.inl k, .ref q)], rfl, by simp, ?_⟩⟩
    · rw [upd_ne]
      · exact upd_same
      · intro z; rw [z, upd_same] at hq; cases hq
    · have hpq : q ≠ p := by intro z; rw [z, upd_same] at hq; cases hq
      have hq0 : H q = none := by rw [upd_ne hpq] at hq; exact hq
      have S : Same H (upd (upd (upd H p (.dK [])) q (.lst [])) p (.dK (mergeK [] [(Sum.inl k, .ref q)]))) := fun b u eb => by
        rw [upd_ne (ne_of_none eb hp), upd_ne (ne_of_none eb hq0), upd_ne (ne_of_none eb hp)]; exact eb
      have hqs : (upd (upd (upd H p (.dK [])) q (.lst [])) p (.dK (mergeK [] [(Sum.inl k, .ref q)]))) q = some (.lst []) := by rw [upd_ne hpq]; exact upd_same
      obtain ⟨S2, R2, q2⟩ := OutP.outR (o := .own (.dct [.int k] [.lst []])) R S ⟨p, rfl, hp, [(Sum.inl k, .ref q)], upd_same, .int .nil, .cons (.lst hqs (fun z => z.elim (fun z => R.d2 q hq0 z) hpq) .nil) .nil⟩
      exact h _ _ S2 R2 q2
  · exact h.elim
/-- a text's method -/
theorem meth_imp {m : Bm} {o : M Opnd} {as : M (List Opnd)} {r : V → List V → Hp → VK → Prop} {Q : VK} (hr : ∀ z vs H1 Q D ts, D2 D H1 → RepPL K mg H1 D ts vs → PureQ K mg D (methT m (.str z) ts) H1 Q → r (.str z) vs H1 Q)
    (h : tR K mg D0 W (OutR K mg D0) (fun env => (o env).bind fun x env1 => match opT env1 x with
    | some (.str z) => (as env1).bind fun ys env2 => optO ((opTs env2 ys).bind fun ts => methT m (.str z) ts) env2
    | _ => .stuck) σ H Q) : tBM K "str" r (tR K mg D0 W (OpdR K mg D0) o) (tA K mg D0 W (OpdsR K mg D0) as) σ H Q := by
  obtain ⟨env, R, h⟩ := h
  refine ⟨env, R, ?_⟩
  cases e : o env with
  | stuck => simp only [e, bind_stuck] at h; exact h
  | exc x env1 => simp only [e, bind_exc] at h; exact h
  | ok x env1 =>
    simp only [e, bind_ok] at h
    intro v H1 S R1 ho
    split at h
    · rename_i z ez
      have hv := (ho.get R1 ez).str
      subst hv
      refine ⟨rfl, env1, R1, ?_⟩
      cases e2 : as env1 with
      | stuck => simp only [e2, bind_stuck] at h; exact h
      | exc x env2 => simp only [e2, bind_exc] at h; exact XPost.back S h
      | ok ys env2 =>
        simp only [e2, bind_ok] at h
        intro vs H2 S2 R2 hv
        cases et : opTs env2 ys with
        | none => rw [et] at h; exact h.elim
        | some ts =>
          rw [et] at h
          exact hr z vs H2 Q _ ts R2.d2 (OpdL.get R2 hv et) (fin_pure (o := methT m (.str z) ts) (S.trans S2) R2 h)
    · exact h.elim
/-- a list's index -/
theorem lix_imp {o : M Opnd} {as : M (List Opnd)} {Q : VK} (h : tR K mg D0 W (OutR K mg D0) (lixM o as) σ H Q) : tBM K "list" (rIndex K) (tR K mg D0 W (OpdR K mg D0) o) (tA K mg D0 W (OpdsR K mg D0) as) σ H Q := by
  obtain ⟨env, R, h⟩ := h
  refine ⟨env, R, ?_⟩
  cases e : o env with
  | stuck => simp only [lixM, e, bind_stuck] at h; exact h
  | exc x env1 => simp only [lixM, e, bind_exc] at h; exact h
  | ok x env1 =>
    simp only [lixM, e, bind_ok] at h
    intro v H1 S R1 ho
    cases ez : opT env1 x with
    | none => rw [ez] at h; exact h.elim
    | some t0 =>
      rw [ez] at h
      cases t0 with
      | lst zs =>
        have h : PR K mg D0 W (OutR K mg D0) env σ H Q ((as env1).bind fun ys env2 => optO ((opT env2 x).bind fun t => (opTs env2 ys).bind fun ts => lixK t ts) env2) := h
        obtain ⟨a, xs, rfl, h1, h2⟩ := (ho.get R1 ez).lst
        refine ⟨.inl ⟨rfl, xs, .inl (.inl h1)⟩, env1, R1, ?_⟩
        cases e2 : as env1 with
        | stuck => simp only [e2, bind_stuck] at h; exact h
        | exc x env2 => simp only [e2, bind_exc] at h; exact XPost.back S h
        | ok ys env2 =>
          simp only [e2, bind_ok] at h
          intro vs H2 S2 R2 hv
          cases et : opT env2 x with
          | none => rw [et] at h; exact h.elim
          | some t =>
            cases es : opTs env2 ys with
            | none => rw [et, es] at h; exact h.elim
            | some ts =>
              rw [et, es] at h
              have rp := OpdL.get R2 hv es
              have rt := (ho.step (Hb := H2) R1 S2).get R2 et
              match ts, rp, h with
              | [u], .cons r0 .nil, h =>
                have h : PR K mg D0 W (OutR K mg D0) env σ H Q (optO (idxL t u) env2) := h
                cases t with
                | lst us =>
                  have h : PR K mg D0 W (OutR K mg D0) env σ H Q (optO (idxT us u) env2) := h
                  unfold idxT at h
                  split at h
                  · rename_i hf
                    rw [Bool.and_eq_true] at hf
                    obtain ⟨a', xs', ea, g1, g2⟩ := rt.lst
                    cases ea
                    cases hj : us.findIdx? fun y => eqT y u with
                    | none => rw [hj] at h; exact h.elim
                    | some j =>
                      rw [hj] at h
                      obtain ⟨p1, p2, p3⟩ := List.findIdx?_eq_some_iff_getElem.mp hj
                      have ru := flat_repP hf.1 r0
                      obtain ⟨z, hz, rz⟩ := g2.get (i := j) (t := us[j]) (by simp [p1])
                      have fz : flatT us[j] = true := List.all_eq_true.mp hf.2 _ (List.getElem_mem p1)
                      refine ⟨a, xs', _, j, z, rfl, rfl, .inl (.inl g1), flat_rep hf.1 ru, ?_, hz, by rw [eq_flat fz hf.1 rz ru]; exact p2, fun m z' hm hz' => ?_, ?_⟩
                      · refine List.all_eq_true.mpr fun w hw => ?_
                        obtain ⟨k, hk, rfl⟩ := List.getElem_of_mem hw
                        obtain ⟨t', ht', rt'⟩ := g2.getV (i := k) (v := xs'[k]) (by simp [hk])
                        exact flat_rep (List.all_eq_true.mp hf.2 _ (List.mem_of_getElem? ht')) rt'
                      · obtain ⟨t', ht', rt'⟩ := g2.getV hz'
                        have hm' : m < us.length := by omega
                        rw [List.getElem?_eq_getElem hm'] at ht'
                        cases ht'
                        rw [eq_flat (List.all_eq_true.mp hf.2 _ (List.getElem_mem hm')) hf.1 rt' ru]
                        exact Bool.eq_false_iff.mpr (p3 m hm)
                      · exact h (.int (j : Nat)) H2 (S.trans S2) R2 (.int _)
                  · exact h.elim
                | _ => exact h.elim
              | [], _, h => exact h.elim
              | _ :: _ :: _, _, h => exact h.elim
      | _ => exact h.elim
end
end VL

set_option maxHeartbeats 4000000
namespace VL
open PySem PySem.Spec PyProof.Rows L2

/-! ### small facts about the text -/
theorem abase {n : Nat} {Γ : Ct} {o : Expr} {c : C} {m : Str} {env : Env} (h : compE n Γ o = some c) : attributeBase o m env (eval o env) = eval o env := by
  cases o with
  | Call f args kws pos =>
    cases f with
    | Name x p =>
      cases args with
      | nil =>
        cases kws with
        | nil =>
          exfalso
          cases n with
          | zero => simp [compE] at h
          | succ n =>
            unfold compE at h
            dsimp only at h
            split at h
            · cases n with
              | zero => simp [compCall] at h
              | succ n =>
                unfold compCall at h
                split at h
                · simp at h
                · split at h
                  · simp at h
                  · split at h <;> simp at h
            · cases h
        | cons _ _ => rfl
      | cons _ _ => rfl
    | _ => rfl
  | _ => rfl
theorem plainIx {b : Expr} (h : isSlice b = false) : PlainIx b := by
  intro o i
  cases b <;> first | rfl | cases h
theorem assign_sub {o i : Expr} {pos : Pos} {env : Env} (h : isSlice i = false) (v : Value) : assign (.Subscript o i pos) env v = (do
      let ov ← holding [v] (eval o env)
      let iv ← holding [v, ov] (eval i env)
      standAt pos
      holding [v, ov, iv] (setItem ov iv v)
      release [v, ov, iv] []) := by
  cases i <;> first | rfl | cases h
theorem folded {e : Expr} {env : Env} (h : isSet e = false) (x : Value) : foldedSetIterable e env x = pure x := by
  cases e <;> first | rfl | cases h
theorem behind {op : CmpOp} {b : Expr} (h : isSet b = false) : behindInMarks op b = false := by
  cases b <;> first | rfl | cases h
theorem slice_none {n : Nat} {Γ : Ct} {b : Expr} {c : C} (h : compE n Γ b = some c) : isSlice b = false ∧ isSet b = false := by
  cases n with
  | zero => simp [compE] at h
  | succ n => cases b <;> first | exact ⟨rfl, rfl⟩ | (unfold compE at h; cases h)
theorem compG_each {n : Nat} {Γ : Ct} {e : Expr} {g : Tg} {es : List Expr} {env : Env} (h : compG n Γ e = some g) : assignEach (e :: es) env = (false, assign e env) :: assignEach es env := by
  cases e <;> first | rfl | (cases n <;> simp [compG] at h)
theorem compGs_each {env : Env} : ∀ {n : Nat} {Γ : Ct} {es : List Expr} {gs : List Tg}, compGs n Γ es = some gs → (assignEach es env).length = gs.length ∧ (assignEach es env).findIdx? (·.1) = none
  | 0, _, es, gs, h => by simp [compGs] at h
  | n + 1, Γ, [], gs, h => by simp [compGs] at h; subst h; exact ⟨rfl, rfl⟩
  | n + 1, Γ, e :: es, gs, h => by
    unfold compGs at h
    obtain ⟨g, hg, z⟩ := Option.bind_eq_some_iff.mp h
    obtain ⟨gs', hgs, z⟩ := Option.map_eq_some_iff.mp z
    subst z
    rw [compG_each hg]
    obtain ⟨i1, i2⟩ := compGs_each (env := env) hgs
    refine ⟨by simp [i1], ?_⟩
    rw [List.findIdx?_cons, i2]
    rfl
theorem pe_vac {X : Cx} {e : Expr} {W : WX} {D0 : Addr → Prop} {m : M Out} (h : ∀ env, m env = .stuck) : PE X e (tR X.K X.mg D0 W (OutR X.K X.mg D0) m) := pe_false fun σ H Q ⟨env, _, q⟩ => by rw [h env] at q; exact q
theorem pt_vac {X : Cx} {e : Expr} {W : WX} {D0 : Addr → Prop} {m : M Bool} (h : ∀ env, m env = .stuck) : PT X e (VL.tB X.K X.mg D0 W m) := ⟨fun _ _ σ H Q _ ⟨env, _, q⟩ => by rw [h env] at q; exact q.elim⟩

/-! ### isinstance of a builtin type -/
section
variable {K : PySem.W.Frag} {mg : Str → Option Value} {H : Hp} {D : Addr → Prop}
def tyN : T → String
  | .non => "NoneType"
  | .bl _ => "bool"
  | .int _ => "int"
  | .str _ => "str"
  | .lst _ => "list"
  | .tup _ => "tuple"
  | .dct _ _ => "dict"
  | _ => ""
theorem tyx_of {t : T} {v : V} (r : RepP K mg H D t v) (h : tyN t ≠ "") : TyX K H v (.type (tyN t)) := by
  cases t with
  | non => cases r.non; exact .base .non
  | bl b => cases r.bl; exact .base (.bl b)
  | int b => cases r.int; exact .base (.int b)
  | str b => cases r.str; exact .base (.str b)
  | lst ts => obtain ⟨a, xs, rfl, h1, _⟩ := r.lst; exact .base (.lst h1)
  | tup ts =>
    obtain ⟨a, xs, rfl, h1, _⟩ := r.tup
    rcases h1 with (h1 | ⟨o, h1⟩) | ⟨o, its, n, h1, h2, _⟩
    · exact .base (.tup h1)
    · exact .fTuple h1
    · exact .kTuple h1 h2
  | dct ks vs =>
    rcases r with r | ⟨a, rfl, r⟩
    · cases r with
      | dct h1 _ _ _ =>
        rcases h1 with h1 | ⟨o, h1⟩
        · exact .base (.dK h1)
        · exact .fDict h1
    · obtain ⟨kvs, h1, _⟩ := r
      exact .base (.dK h1)
  | _ => exact absurd rfl h
theorem kit_tab (K : PySem.W.Frag) : ∀ n ∈ ["int", "bool", "str", "list", "tuple"], ∀ m ∈ ["NoneType", "bool", "int", "str", "list", "tuple", "dict"], PySem.W.kitOne K (.type m) (.type n) = some (m == n || (m == "bool" && n == "int")) := by
  intro n hn m hm
  simp only [List.mem_cons, List.mem_nil_iff, or_false] at hn hm
  rcases hn with rfl | rfl | rfl | rfl | rfl <;> rcases hm with rfl | rfl | rfl | rfl | rfl | rfl | rfl <;> rfl
/-- the class as a value -/
def KlV (mg : Str → Option Value) : Kl → V → Value → Prop
  | .ty n, c, u => c = .ty n ∧ u = .type n
  | .own d, c, u => ∃ D : Addr, mg d = some (.ref D) ∧ c = .ref D ∧ u = .ref D
theorem tyN_mem {t : T} (h : tyN t ≠ "") : tyN t ∈ tyL := by
  cases t <;> first | (simp [tyN, tyL]; done) | exact (h rfl).elim
theorem isi_of {Φ : Ft} {t : T} {v c : V} {u : Value} {k : Kl} {b : Bool} (hex : ∀ x fs, Φ.ex x = some fs → ∃ C : Addr, mg x = some (.ref C) ∧ XcK K C ∧ XcT K C)
    (hisa : ∀ c d fc fd C D, Φ.ex c = some fc → Φ.ex d = some fd → mg c = some (.ref C) → mg d = some (.ref D) → PySem.W.kitOne K (.ref C) (.ref D) = some (Φ.isa c d))
    (hcis : ∀ c d fc fd C D, Φ.mkf c = some fc → Φ.mkf d = some fd → mg c = some (.ref C) → mg d = some (.ref D) → Cls K C ∧ InsT K C ∧ PySem.W.kitOne K (.ref C) (.ref D) = some (Φ.cis c d))
    (r : RepP K mg H D t v) (h : isiT Φ t k = some b) (hk : KlV mg k c u) : ClsV c u ∧ ∃ tt, (TyX K H v tt ∨ ExT K H v tt) ∧ PySem.W.kitOne K tt u = some b := by
  cases k with
  | ty n =>
    obtain ⟨rfl, rfl⟩ := hk
    refine ⟨.ty n, ?_⟩
    have key : tyN t ≠ "" → n ∈ ["int", "bool", "str", "list", "tuple"] → tyN t ∈ ["NoneType", "bool", "int", "str", "list", "tuple", "dict"] → (tyN t == n || (tyN t == "bool" && n == "int")) = b → ∃ tt, (TyX K H v tt ∨ ExT K H v tt) ∧ PySem.W.kitOne K tt (.type n) = some b :=
      fun h1 h2 h3 h4 => ⟨_, .inl (tyx_of r h1), by rw [kit_tab K n h2 _ h3, h4]⟩
    cases t with
    | exc x f g =>
      have h : (if (Φ.ex x).isSome && decide (n = "ValueError") then some true else none) = some b := h
      split at h
      · rename_i hc
        cases h
        rw [Bool.and_eq_true, decide_eq_true_eq] at hc
        obtain ⟨hx, rfl⟩ := hc
        obtain ⟨fs, hfs⟩ := Option.isSome_iff_exists.mp hx
        obtain ⟨C, hm, xk, xt⟩ := hex x fs hfs
        rcases r with r | ⟨a, _, r⟩
        · cases r with
          | exc0 hm' ha hn => rw [hm] at hm'; cases hm'; exact ⟨.ref C, .inr ⟨_, C, none, rfl, rfl, xk, ha, fun _ z => nomatch z⟩, xt.1⟩
          | exc hm' ha hn hd hn2 hl rl => rw [hm] at hm'; cases hm'; exact ⟨.ref C, .inr ⟨_, C, _, rfl, rfl, xk, ha, fun _ z => by cases z; exact ⟨_, hd⟩⟩, xt.1⟩
        · exact r.elim
      · cases h
    | non => unfold isiT at h; dsimp only at h; split at h
             · rename_i hn; cases h; refine key (by decide) hn (by decide) ?_; simp only [List.mem_cons, List.mem_nil_iff, or_false] at hn; rcases hn with rfl | rfl | rfl | rfl | rfl <;> rfl
             · cases h
    | bl x => unfold isiT at h; dsimp only at h; split at h
              · rename_i hn; cases h; refine key (by simp [tyN]) hn (by simp [tyN]) ?_; simp only [List.mem_cons, List.mem_nil_iff, or_false] at hn; rcases hn with rfl | rfl | rfl | rfl | rfl <;> rfl
              · cases h
    | int x => unfold isiT at h; dsimp only at h; split at h
               · rename_i hn; cases h; refine key (by simp [tyN]) hn (by simp [tyN]) ?_; simp only [List.mem_cons, List.mem_nil_iff, or_false] at hn; rcases hn with rfl | rfl | rfl | rfl | rfl <;> rfl
               · cases h
    | str x => unfold isiT at h; dsimp only at h; split at h
               · rename_i hn; cases h; refine key (by simp [tyN]) hn (by simp [tyN]) ?_; simp only [List.mem_cons, List.mem_nil_iff, or_false] at hn; rcases hn with rfl | rfl | rfl | rfl | rfl <;> rfl
               · cases h
    | lst x => unfold isiT at h; dsimp only at h; split at h
               · rename_i hn; cases h; refine key (by simp [tyN]) hn (by simp [tyN]) ?_; simp only [List.mem_cons, List.mem_nil_iff, or_false] at hn; rcases hn with rfl | rfl | rfl | rfl | rfl <;> rfl
               · cases h
    | tup x => unfold isiT at h; dsimp only at h; split at h
               · rename_i hn; cases h; refine key (by simp [tyN]) hn (by simp [tyN]) ?_; simp only [List.mem_cons, List.mem_nil_iff, or_false] at hn; rcases hn with rfl | rfl | rfl | rfl | rfl <;> rfl
               · cases h
    | dct x y => unfold isiT at h; dsimp only at h; split at h
                 · rename_i hn; cases h; refine key (by simp [tyN]) hn (by simp [tyN]) ?_; simp only [List.mem_cons, List.mem_nil_iff, or_false] at hn; rcases hn with rfl | rfl | rfl | rfl | rfl <;> rfl
                 · cases h
    | _ => simp [isiT] at h
  | own d =>
    obtain ⟨D', hD, rfl, rfl⟩ := hk
    refine ⟨.own D', ?_⟩
    have key : (if (Φ.ex d).isSome then some false else none) = some b → tyN t ≠ "" → ∃ tt, (TyX K H v tt ∨ ExT K H v tt) ∧ PySem.W.kitOne K tt (.ref D') = some b := fun h hn => by
      split at h
      · rename_i hd
        cases h
        obtain ⟨fs, hfs⟩ := Option.isSome_iff_exists.mp hd
        obtain ⟨C, hm, xk, xt⟩ := hex d fs hfs
        rw [hD] at hm; cases hm
        exact ⟨_, .inl (tyx_of r hn), xt.2 _ (tyN_mem hn)⟩
      · cases h
    cases t with
    | exc x f g =>
      have h : (if (Φ.ex x).isSome && (Φ.ex d).isSome then some (Φ.isa x d) else none) = some b := h
      split at h
      · rename_i hc
        cases h
        rw [Bool.and_eq_true] at hc
        obtain ⟨hx, hd⟩ := hc
        obtain ⟨fs, hfs⟩ := Option.isSome_iff_exists.mp hx
        obtain ⟨fs', hfs'⟩ := Option.isSome_iff_exists.mp hd
        obtain ⟨C, hm, xk, xt⟩ := hex x fs hfs
        have hi := hisa x d fs fs' C D' hfs hfs' hm hD
        rcases r with r | ⟨a, _, r⟩
        · cases r with
          | exc0 hm' ha hn => rw [hm] at hm'; cases hm'; exact ⟨.ref C, .inr ⟨_, C, none, rfl, rfl, xk, ha, fun _ z => nomatch z⟩, hi⟩
          | exc hm' ha hn hd hn2 hl rl => rw [hm] at hm'; cases hm'; exact ⟨.ref C, .inr ⟨_, C, _, rfl, rfl, xk, ha, fun _ z => by cases z; exact ⟨_, hd⟩⟩, hi⟩
        · exact r.elim
      · cases h
    | non => exact key h (by simp [tyN])
    | bl x => exact key h (by simp [tyN])
    | int x => exact key h (by simp [tyN])
    | str x => exact key h (by simp [tyN])
    | lst x => exact key h (by simp [tyN])
    | tup x => exact key h (by simp [tyN])
    | ins x f g =>
      have h : (if (Φ.mkf x).isSome && (Φ.mkf d).isSome then some (Φ.cis x d) else none) = some b := h
      split at h
      · rename_i hc
        cases h
        rw [Bool.and_eq_true] at hc
        obtain ⟨hx, hd⟩ := hc
        obtain ⟨fs, hfs⟩ := Option.isSome_iff_exists.mp hx
        obtain ⟨fs', hfs'⟩ := Option.isSome_iff_exists.mp hd
        rcases r with r | ⟨a, _, r⟩
        · cases r with
          | @ins _ _ _ C _ _ _ hm ha hn hl rl =>
            obtain ⟨cl, ⟨t1, t2, t3, t4⟩, hi⟩ := hcis x d fs fs' C D' hfs hfs' hm hD
            exact ⟨.ref C, .inl (.base (.ins ha cl t1 t2 t3 t4)), hi⟩
        · exact r.elim
      · cases h
    | _ => simp [isiT] at h
theorem isi_imp {Φ : Ft} {D0 : Addr → Prop} {W : WX} {σ : L2.St} {k : Kl} {c : V} {u : Value} {m : M Opnd} {Q : VK} (hex : ∀ x fs, Φ.ex x = some fs → ∃ C : Addr, mg x = some (.ref C) ∧ XcK K C ∧ XcT K C)
    (hisa : ∀ c d fc fd C D, Φ.ex c = some fc → Φ.ex d = some fd → mg c = some (.ref C) → mg d = some (.ref D) → PySem.W.kitOne K (.ref C) (.ref D) = some (Φ.isa c d)) 
    (hcis : ∀ c d fc fd C D, Φ.mkf c = some fc → Φ.mkf d = some fd → mg c = some (.ref C) → mg d = some (.ref D) → Cls K C ∧ InsT K C ∧ PySem.W.kitOne K (.ref C) (.ref D) = some (Φ.cis c d)) (hk : KlV mg k c u)
    (h : tR K mg D0 W (OutR K mg D0) (un1 m fun t => (isiT Φ t k).map fun r => .val (.bl r)) σ H Q) :
    tCB (rIsiX K) (tCons (tR K mg D0 W (OpdR K mg D0) m) (tCons (tC c) tNil)) σ H Q := by
  obtain ⟨env, R, h⟩ := un1_imp h
  refine ⟨env, R, ?_⟩
  revert h
  cases m env with
  | stuck => exact id
  | exc x e => exact id
  | ok o e =>
    intro h v H1 S R1 ho
    obtain ⟨D, t, _, r, p⟩ := h v H1 S R1 ho
    cases eb : isiT Φ t k with
    | none => rw [eb] at p; obtain ⟨out, z, _⟩ := p; cases z
    | some b =>
      rw [eb] at p
      obtain ⟨cv, tt, ty, ek⟩ := isi_of hex hisa hcis r eb hk
      exact ⟨v, c, tt, u, b, rfl, cv, ty, ek, p.of_val (.bl _)⟩
end
end VL

set_option maxHeartbeats 4000000
namespace VL
open PySem PySem.Spec PyProof.Rows L2

/-! ### what compiles is sound -/
structure Snd (Φ : Ft) (n : Nat) : Prop where
  e : ∀ {Γ : Ct} {X : Cx} {W : WX} (D0 : Addr → Prop) {e : Expr} {c : C}, Ok Γ Φ X W → compE n Γ e = some c → PE X e (tR X.K X.mg D0 W (OutR X.K X.mg D0) (evE Φ c))
  t : ∀ {Γ : Ct} {X : Cx} {W : WX} (D0 : Addr → Prop) {e : Expr} {c : C}, Ok Γ Φ X W → compE n Γ e = some c → PT X e (VL.tB X.K X.mg D0 W (evT Φ c))
  w : ∀ {Γ : Ct} {X : Cx} {W : WX} (D0 : Addr → Prop) {op : BoolOp} {es : List Expr} {pos : Pos} {c : C}, Ok Γ Φ X W → compE n Γ (.BoolOp op es pos) = some c → PW X (.BoolOp op es pos) (VL.tB X.K X.mg D0 W (evT Φ c))
  lo : ∀ {Γ : Ct} {X : Cx} {W : WX} (D0 : Addr → Prop) {es : List Expr} {cs : List C}, Ok Γ Φ X W → compL n Γ es = some cs → PA X es (tA X.K X.mg D0 W (OpdsR X.K X.mg D0) (opnds cs (evL Φ cs)))
  lv : ∀ {Γ : Ct} {X : Cx} {W : WX} (D0 : Addr → Prop) {es : List Expr} {cs : List C}, Ok Γ Φ X W → compL n Γ es = some cs → PA X es (tA X.K X.mg D0 W (ValsR X.K X.mg D0) (vals (evL Φ cs)))
  la : ∀ {Γ : Ct} {X : Cx} {W : WX} (D0 : Addr → Prop) (pk : List Pk) {es : List Expr} {cs : List C}, Ok Γ Φ X W → compL n Γ es = some cs → PA X es (tA X.K X.mg D0 W (OpdsR X.K X.mg D0) (argO pk cs (evL Φ cs)))
  p : ∀ {Γ : Ct} {X : Cx} {W : WX} (D0 : Addr → Prop) {e : Option Expr} {c : Option C}, Ok Γ Φ X W → compO n Γ e = some c → PO X e (tP X.K X.mg D0 W (evP Φ c))
  i : ∀ {Γ : Ct} {X : Cx} {W : WX} (D0 : Addr → Prop) {tg e : Expr} {it : It}, Ok Γ Φ X W → compI n Γ tg e = some it → PI X tg e (tI X.K X.mg D0 W (evI Φ it))
  g : ∀ {Γ : Ct} {X : Cx} {W : WX} (D0 : Addr → Prop) {e : Expr} {g : Tg}, Ok Γ Φ X W → compG n Γ e = some g → PG X e (VL.tG X.K X.mg D0 W (tgSlots g) (evG Φ g))
  gs : ∀ {Γ : Ct} {X : Cx} {W : WX} (D0 : Addr → Prop) {es : List Expr} {gs : List Tg}, Ok Γ Φ X W → compGs n Γ es = some gs → PGs X es (tGs X.K X.mg D0 W (tgSlotsL gs) (evGs Φ gs))
  call : ∀ {Γ : Ct} {X : Cx} {W : WX} (D0 : Addr → Prop) {x : Str} {args : List Expr} {p pos : Pos} {c : C}, Ok Γ Φ X W → compCall n Γ x args = some c → glB Γ.sc x = true → okName x = true → PE X (.Call (.Name x p) args [] pos) (tR X.K X.mg D0 W (OutR X.K X.mg D0) (evE Φ c))
  meth : ∀ {Γ : Ct} {X : Cx} {W : WX} (D0 : Addr → Prop) {o : Expr} {m : Str} {args : List Expr} {apos cpos : Pos} {c : C}, Ok Γ Φ X W → compMeth n Γ o m args = some c → (apos.endLine == cpos.line) = true → args.length ≤ 5 → PE X (.Call (.Attribute o m apos) args [] cpos) (tR X.K X.mg D0 W (OutR X.K X.mg D0) (evE Φ c))
  lc : ∀ {Γ : Ct} {X : Cx} {W : WX} (D0 : Addr → Prop) {elt tg iter : Expr} {ifs : List Expr} {scope : Scope} {pos : Pos} {c : C} {it : It} {g : Tg} {k : Option C} {own : List Nat}, Ok Γ Φ X W → compLC n Γ elt tg iter ifs scope = some (c, it, g, k, own) →
    PE X (.ListComp elt [⟨tg, iter, ifs, 0⟩] scope pos) (tR X.K X.mg D0 W (OutR X.K X.mg D0) (evE Φ (.lc c it g k own)))
  cif : ∀ {Γ : Ct} {X : Cx} {ifs : List Expr} {k : Option C}, Ok Γ Φ X W0 → compIf n Γ ifs = some k → PTs X ifs (ttC X.K X.mg (evC Φ k))

section
variable {Φ : Ft} {n : Nat} {Γ : Ct} {X : Cx} {W : WX} {D0 : Addr → Prop}
theorem snd_zero : Snd Φ 0 := by
  constructor
  all_goals intros
  all_goals simp_all [compE, compL, compO, compI, compG, compGs, compCall, compMeth, compLC, compIf]
/-- an expression as an operand -/
theorem Snd.o (s : Snd Φ n) (D0 : Addr → Prop) {e : Expr} {c : C} (ok : Ok Γ Φ X W) (h : compE n Γ e = some c) : PE X e (tR X.K X.mg D0 W (OpdR X.K X.mg D0) (opnd c (evE Φ c))) := opd_of h ok (s.e D0 ok h)
theorem s_lv (s : Snd Φ n) {es : List Expr} {cs : List C} (ok : Ok Γ Φ X W) (h : compL (n + 1) Γ es = some cs) : PA X es (tA X.K X.mg D0 W (ValsR X.K X.mg D0) (vals (evL Φ cs))) := by
  cases es with
  | nil => simp [compL] at h; subst h; exact pa_imp pa_nil fun σ H Q q => vals_nil_imp q
  | cons e es =>
    unfold compL at h
    obtain ⟨c, hc, z⟩ := Option.bind_eq_some_iff.mp h
    obtain ⟨ds, hd, z⟩ := Option.map_eq_some_iff.mp z
    subst z
    exact pa_imp (pa_cons (s.e D0 ok hc) (s.lv D0 ok hd) (notStar hc)) fun σ H Q q => vals_cons_imp q
theorem s_lo (s : Snd Φ n) {es : List Expr} {cs : List C} (ok : Ok Γ Φ X W) (h : compL (n + 1) Γ es = some cs) : PA X es (tA X.K X.mg D0 W (OpdsR X.K X.mg D0) (opnds cs (evL Φ cs))) := by
  cases es with
  | nil => simp [compL] at h; subst h; exact pa_imp pa_nil fun σ H Q q => opnds_nil_imp q
  | cons e es =>
    unfold compL at h
    obtain ⟨c, hc, z⟩ := Option.bind_eq_some_iff.mp h
    obtain ⟨ds, hd, z⟩ := Option.map_eq_some_iff.mp z
    subst z
    exact pa_imp (pa_cons (s.o D0 ok hc) (s.lo D0 ok hd) (notStar hc)) fun σ H Q q => row_imp q
theorem argO_stuck {pk : List Pk} {cs : List C} {ms : List (M Out)} (h : argO pk cs ms = fun _ => .stuck) (env : En) : argO pk cs ms env = .stuck := by rw [h]
theorem pa_vac {es : List Expr} {t : TA} (h : ∀ σ H Q, ¬ t σ H Q) : PA X es t := ⟨fun _ _ _ σ H Q _ hw => (h σ H Q hw).elim⟩
theorem s_la (s : Snd Φ n) (pk : List Pk) {es : List Expr} {cs : List C} (ok : Ok Γ Φ X W) (h : compL (n + 1) Γ es = some cs) : PA X es (tA X.K X.mg D0 W (OpdsR X.K X.mg D0) (argO pk cs (evL Φ cs))) := by
  cases es with
  | nil =>
    simp [compL] at h; subst h
    cases pk with
    | nil => exact pa_imp pa_nil fun σ H Q q => opnds_nil_imp (by simpa [argO, opnds, evL] using q)
    | cons p ps => exact pa_vac fun σ H Q ⟨env, _, q⟩ => by cases p <;> (simp only [evL, argO] at q; exact q)
  | cons e es =>
    unfold compL at h
    obtain ⟨c, hc, z⟩ := Option.bind_eq_some_iff.mp h
    obtain ⟨ds, hd, z⟩ := Option.map_eq_some_iff.mp z
    subst z
    cases pk with
    | nil => exact pa_vac fun σ H Q ⟨env, _, q⟩ => by simp only [evL, argO] at q; exact q
    | cons p ps =>
      cases p with
      | es => exact pa_imp (pa_cons (s.e D0 ok hc) (s.la D0 ps ok hd) (notStar hc)) fun σ H Q q => es_imp (by simpa only [argO, evL] using q)
      | rd => exact pa_imp (pa_cons (s.o D0 ok hc) (s.la D0 ps ok hd) (notStar hc)) fun σ H Q q => row_imp (by simpa only [argO, evL] using q)
      | io => exact pa_imp (pa_cons (s.o D0 ok hc) (s.la D0 ps ok hd) (notStar hc)) fun σ H Q q => row_imp (by simpa only [argO, evL] using q)
theorem s_p (s : Snd Φ n) {e : Option Expr} {c : Option C} (ok : Ok Γ Φ X W) (h : compO (n + 1) Γ e = some c) : PO X e (tP X.K X.mg D0 W (evP Φ c)) := by
  cases e with
  | none => simp [compO] at h; subst h; exact po_imp po_none fun σ H Q q => pnone_imp (by simpa only [evP] using q)
  | some e =>
    unfold compO at h
    obtain ⟨c, hc, z⟩ := Option.map_eq_some_iff.mp h
    subst z
    exact po_imp (po_some (s.o D0 ok hc)) fun σ H Q q => psome_imp (by simpa only [evP] using q)
theorem s_cif (s : Snd Φ n) {ifs : List Expr} {k : Option C} (ok : Ok Γ Φ X W0) (h : compIf (n + 1) Γ ifs = some k) : PTs X ifs (ttC X.K X.mg (evC Φ k)) := by
  match ifs, h with
  | [], h => simp [compIf] at h; subst h; simpa only [evC, ttC] using pts_nil
  | [t], h =>
    unfold compIf at h
    obtain ⟨c, hc, z⟩ := Option.map_eq_some_iff.mp h
    subst z
    refine pts_one ⟨fun pins s' σ H Q I q => ?_⟩
    simp only [evC, ttC] at q
    obtain ⟨D1, q⟩ := q
    exact (s.t D1 ok hc).run pins s' σ H Q I q
  | _ :: _ :: _, h => simp [compIf] at h
theorem s_gs (s : Snd Φ n) {es : List Expr} {gs : List Tg} (ok : Ok Γ Φ X W) (h : compGs (n + 1) Γ es = some gs) : PGs X es (tGs X.K X.mg D0 W (tgSlotsL gs) (evGs Φ gs)) := by
  cases es with
  | nil => simp [compGs] at h; subst h; exact pgs_imp pgs_nil fun v σ H Q q => gs_nil_imp (by simpa only [tgSlotsL] using q)
  | cons e es =>
    unfold compGs at h
    obtain ⟨g, hg, z⟩ := Option.bind_eq_some_iff.mp h
    obtain ⟨gs', hgs, z⟩ := Option.map_eq_some_iff.mp z
    subst z
    exact pgs_imp (pgs_cons (s.g D0 ok hg) (s.gs D0 ok hgs) (by rw [compG_each hg]; rfl)) fun v σ H Q q => gs_cons_imp (by simpa only [tgSlotsL] using q)
theorem Ok.N' (ok : Ok Γ Φ X W) : X.N.Nodup := by rw [ok.N]; exact ok.nd
theorem s_g (s : Snd Φ n) {e : Expr} {g : Tg} (ok : Ok Γ Φ X W) (h : compG (n + 1) Γ e = some g) : PG X e (VL.tG X.K X.mg D0 W (tgSlots g) (evG Φ g)) := by
  unfold compG at h
  split at h
  · rename_i x p
    obtain ⟨i, hi, z⟩ := Option.map_eq_some_iff.mp h
    subst z
    unfold ixSt at hi
    split at hi
    · rename_i hc
      simp only [Bool.and_eq_true] at hc
      have hN : X.N[i]? = some x := by rw [ok.N]; exact ixN0_is hi
      have hst := hc.1
      unfold stB at hst
      have hl : Loc X.env.scope x ∧ (X.fn x = true ∨ X.env.scope.names.lookup x = some .local) := by
        rw [ok.sc]
        split at hst
        · rename_i e; exact ⟨.inl e, .inr e⟩
        · rename_i e; exact ⟨.inr e, .inl (ok.fnc x hst)⟩
        · cases hst
      exact pg_imp (pg_name ok.N' hN hl.1 hl.2) fun v σ H Q q => g_name_imp (by simpa only [tgSlots, evG] using q)
    · cases hi
  · rename_i es k p
    split at h
    · cases h
    rename_i hho
    obtain ⟨gs, hgs, z⟩ := Option.map_eq_some_iff.mp h
    subst z
    obtain ⟨e1, e2⟩ := compGs_each (env := X.env) hgs
    exact pg_imp (pg_seq (ok.calm (by simpa using hho)) (s.gs D0 ok hgs) e1 e2) fun v σ H Q q => g_tup_imp rfl (by simpa only [tgSlots] using q)
  · rename_i x p i p2
    split at h
    · cases h
    · rename_i hs
      obtain ⟨j, hj, z⟩ := Option.bind_eq_some_iff.mp h
      obtain ⟨c, hc, z⟩ := Option.map_eq_some_iff.mp z
      subst z
      obtain ⟨h1, h2, h3, h4⟩ := ok.slot hj
      exact pg_imp (pg_sub (pe_var h1 h2 h3 h4) (s.o D0 ok hc) (set_both (by have := ok.hu; omega)) (assign_sub (by simpa using hs))) fun v σ H Q q => g_sub_imp (by simpa only [tgSlots, evG] using q)
  · cases h
/-! ### methods of own classes -/
def tMethD (X : Cx) (W : WX) (m : Str) (ta : TE) (tas : List Pk → TA) : TE := fun σ H Q => ta σ H fun x H1 => ∃ (a C dx : Addr) (fs : List (Str × V)) (f : Addr) (fd : FuncData) (ps : List Str) (k : Nat) (F : Fn), x = .ref a ∧ H1 a = some (.ins C dx fs) ∧ Cls X.K C ∧ Meth X.K C m f ∧ fs.lookup m = none ∧
  FnOk X.prog X.w X.K X.mg X.base (L2.CX X.prog X.w) k f fd ps (FnSp X.K X.mg F) ∧ Binds X.K fd ps [] ∧ Room k X.A ∧ tas F.pk.tail σ H1 (fun vs H2 => FnSp X.K X.mg F (x :: vs) H2 Q fun cls d H' => W cls d σ H')
theorem pe_methD {X : Cx} {W : WX} {m : Str} {o e : Expr} {es : List Expr} {apos pos : Pos} {ta : TE} {tas : List Pk → TA} {pl : Sem Bool} (tk : Takes X W) (he : PE X o ta) (ha : ∀ pk, PA X (e :: es) (tas pk))
    (hst : starEach (e :: es) X.env = (false, eval e X.env) :: starEach es X.env := by rfl) (hpl : (backTo pos (starEach es X.env)).any (·.1) = false := by rfl)
    (ht : eval (.Call (.Attribute o m apos) (e :: es) [] pos) X.env = (do
      let ov ← eval o X.env
      standAt apos.atName
      let (f, first) ← holding [ov] (getMethod ov m pl)
      callWith pos f first (backTo pos (starEach (e :: es) X.env)) (backToKw pos (keywordEach [] X.env))) := by rfl) :
    PE X (.Call (.Attribute o m apos) (e :: es) [] pos) (tMethD X W m ta tas) := by
  refine ⟨fun pins s σ H Q I h => ?_⟩
  refine PySem.W.methodCall_KW (pl := pl) (thn (he.run pins s σ H _ I h) fun u s1 ⟨x, H1, I1, rx, a, C, dx, fs, f, fd, ps, k, F, ex, ea, c, hm, l, FO, hb, hr, q⟩ => ?_) ht
  subst ex
  obtain rfl : u = Value.ref a := rx
  refine getmeth_ok I1 ea c hm l ?_
  refine PySem.W.callWith_K (first := [.ref a]) (h₀ := X.base) I.ok.mod.kin hm.kp (thn ((ha F.pk.tail).run pos pins s1 σ H1 _ I1 q) fun us s2 ⟨vs, H2, I2, r, q2⟩ => ⟨I2.kIn, ?_⟩) hst hpl
  exact run_fnS (us := .ref a :: us) (vs := .ref a :: vs) (E := WE W) FO hr hb (passAt tk σ) I2 (.cons rfl r) q2
theorem pe_methD0 {X : Cx} {W : WX} {m : Str} {o : Expr} {apos pos : Pos} {ta : TE} {tas : List Pk → TA} {pl : Sem Bool} (tk : Takes X W) (he : PE X o ta) (ha : ∀ pk σ H Q, tas pk σ H Q → Q [] H)
    (ht : eval (.Call (.Attribute o m apos) [] [] pos) X.env = (do
      let ov ← eval o X.env
      standAt apos.atName
      let (f, first) ← holding [ov] (getMethod ov m pl)
      callWith pos f first (backTo pos (starEach [] X.env)) (backToKw pos (keywordEach [] X.env))) := by rfl) :
    PE X (.Call (.Attribute o m apos) [] [] pos) (tMethD X W m ta tas) := by
  refine ⟨fun pins s σ H Q I h => ?_⟩
  refine PySem.W.methodCall_KW (pl := pl) (thn (he.run pins s σ H _ I h) fun u s1 ⟨x, H1, I1, rx, a, C, dx, fs, f, fd, ps, k, F, ex, ea, c, hm, l, FO, hb, hr, q⟩ => ?_) ht
  subst ex
  obtain rfl : u = Value.ref a := rx
  refine getmeth_ok I1 ea c hm l ?_
  exact PySem.W.callWith_K0 (first := [.ref a]) I1.kIn hm.kp (run_fnS (us := [.ref a]) (vs := [.ref a]) (E := WE W) FO hr hb (passAt tk σ) I1 (.cons rfl .nil) (ha _ _ _ _ q))
section
variable {K : PySem.W.Frag} {mg : Str → Option Value} {H0 H H1 H2 H' : Hp} {D0 D : Addr → Prop} {env env1 env2 env' : En} {σ : L2.St} {W : WX}
theorem PRo.back {Q : VK} {r : Res Out} (S : Step env σ H env1 σ H1) (h : PR K mg D0 W (OutR K mg D0) env σ H Q r) : PR K mg D0 W (OutR K mg D0) env1 σ H1 Q r := by
  cases r with
  | stuck => exact h
  | exc x e => exact XPost.back S h
  | ok o e => exact fun v H' S' R' ho => h v H' (S.trans S') R' (ho.back S.dom)
theorem look_zip {m : Str} : ∀ {fn : List Str} {fv : List T} {vs : List V}, fn.length = vs.length → RepL K mg H D fv vs → look m fn fv = none → (fn.zip vs).lookup m = none
  | [], _, _, _, _, _ => rfl
  | n :: ns, [], [], h, _, _ => by cases h
  | n :: ns, t :: ts, v :: vs, h, .cons r l, e => by
    unfold look at e
    split at e
    · cases e
    · rename_i hne
      have h' : ns.length = vs.length := by simpa using h
      show (match m == n with | true => some v | false => (ns.zip vs).lookup m) = none
      rw [beq_eq_false_iff_ne.mpr hne]
      exact look_zip h' l e
theorem ometh_imp {Φ : Ft} {X : Cx} {m : Str} {o : M Opnd} {as : List Pk → M (List Opnd)} {Q : VK} (hK : X.K = K) (hmg : X.mg = mg)
    (me : ∀ c F C, Φ.me c m = some F → mg c = some (.ref C) → Cls X.K C ∧ ∃ (f : Addr) (fd : FuncData) (ps : List Str) (k : Nat), Meth X.K C m f ∧ FnOk X.prog X.w X.K X.mg X.base (L2.CX X.prog X.w) k f fd ps (FnSp X.K X.mg F) ∧ Binds X.K fd ps [] ∧ Room k X.A)
    (h : tR K mg D0 W (OutR K mg D0) (fun env => (o env).bind fun x env1 => match opT env1 x with
    | some (.ins c fn fv) => match Φ.me c m, look m fn fv with
      | some F, none => callF F (fun e => (as F.pk.tail e).bind fun ys e2 => .ok (x :: ys) e2) env1
      | _, _ => .stuck
    | _ => .stuck) σ H Q) : tMethD X W m (tR K mg D0 W (OpdR K mg D0) o) (fun pk => tA K mg D0 W (OpdsR K mg D0) (as pk)) σ H Q := by
  subst hK hmg
  obtain ⟨env, R, h⟩ := h
  refine ⟨env, R, ?_⟩
  cases e : o env with
  | stuck => simp only [e, bind_stuck] at h; exact h
  | exc x env1 => simp only [e, bind_exc] at h; exact h
  | ok x env1 =>
    simp only [e, bind_ok] at h
    intro v H1 S R1 ho
    cases et : opT env1 x with
    | none => rw [et] at h; exact h.elim
    | some t =>
      rw [et] at h
      have rp := ho.get R1 et
      cases t with
      | ins c fn fv =>
        dsimp only at h
        cases hme : Φ.me c m with
        | none => rw [hme] at h; exact h.elim
        | some F =>
          cases hl : look m fn fv with
          | some z => rw [hme, hl] at h; exact h.elim
          | none =>
            rw [hme, hl] at h
            rcases rp with rp | ⟨a, _, rt⟩
            · cases rp with
              | @ins _ _ _ C dx vs a hc ha hn hlen hr =>
                obtain ⟨cl, f, fd, ps, k, hm, FO, hb, rm⟩ := me c F C hme hc
                refine ⟨a, C, dx, fn.zip vs, f, fd, ps, k, F, rfl, ha, cl, hm, look_zip hlen hr hl, FO, hb, rm, ?_⟩
                have q := callF_pl (Q := Q) (m := fun e => (as F.pk.tail e).bind fun ys e2 => .ok (x :: ys) e2) R1 (PRo.back S h)
                refine ⟨env1, R1, ?_⟩
                cases ea : as F.pk.tail env1 with
                | stuck => simp only [ea, bind_stuck] at q; exact q
                | exc y e2 => simp only [ea, bind_exc] at q; exact q
                | ok ys e2 =>
                  simp only [ea, bind_ok] at q
                  intro vs H2 S2 R2 hv
                  refine q (.ref a :: vs) H2 S2 R2 ?_
                  have ho2 := ho.step (Hb := H2) R1 S2
                  cases x with
                  | val t => exact .val ho2 hv
                  | slot i => exact .slot ho2 hv
            · exact rt.elim
      | _ => exact h.elim
end
/-- C(..) -/
theorem mk_imp {K : PySem.W.Frag} {mg : Str → Option Value} {D0 : Addr → Prop} {W : WX} {σ : L2.St} {H : Hp} {C : Addr} {c : Str} {fn : List Str} {m : M (List T)} {E : XK} {Q : VK} (hm : mg c = some (.ref C))
    (h : tR K mg D0 W (OutR K mg D0) (fun env => (m env).bind fun ts env1 => if ts.length = fn.length then .ok (.val (.ins c fn ts)) env1 else .stuck) σ H Q) : tMake C (InitSp C fn) [] E (tA K mg D0 W (ValsR K mg D0) m) σ H Q := by
  obtain ⟨env, R, h⟩ := h
  refine ⟨env, R, ?_⟩
  cases e : m env with
  | stuck => simp only [e, bind_stuck] at h; exact h
  | exc x env1 => simp only [e, bind_exc] at h; exact h
  | ok ts env1 =>
    simp only [e, bind_ok] at h
    intro vs H1 S R1 hv
    replace hv : RepL K mg H1 (Dof D0 env1 σ) ts vs := hv
    split at h
    · rename_i hl
      intro x dx hx hdx hne
      refine ⟨x, dx, vs ++ [], rfl, by rw [List.append_nil, ← hv.length]; exact hl, upd_same, rfl, ?_⟩
      have sm : Same H1 (upd (upd (upd H1 dx (.own x)) x (.ins C dx [])) x (.ins C dx (fn.zip (vs ++ [])))) := fun b u hb => by
        have b1 : b ≠ x := fun z => by rw [z, hx] at hb; cases hb
        have b2 : b ≠ dx := fun z => by rw [z, hdx] at hb; cases hb
        rw [upd_ne b1, upd_ne b1, upd_ne b2]; exact hb
      refine h (.ref x) _ (S.trans (Step.grow sm)) (R1.same sm) ?_
      rw [List.append_nil] at sm ⊢
      exact .ins hm upd_same (fun z => R1.dofDom z hx) (by rw [← hv.length]; exact hl.symm) (hv.mono (fun a o ha _ => sm a o ha) fun a z => .inl z)
    · exact h.elim
theorem Mo.to {A : Around} {base : Heap} {P : Program} {w : World} {K : PySem.W.Frag} {mg : Str → Option Value} {Γ Γ' : Ct} (m : Mo P w K mg base A Γ Φ) (h : Γ'.gl = Γ.gl ∧ Γ'.dfs = Γ.dfs ∧ Γ'.cls = Γ.cls ∧ Γ'.mts = Γ.mts ∧ Γ'.exs = Γ.exs ∧ Γ'.hfs = Γ.hfs ∧ Γ'.hot = Γ.hot) : Mo P w K mg base A Γ' Φ := by
  obtain ⟨h1, h2, h3, h4, h5, h6, h7⟩ := h
  exact ⟨m.bl, by rw [h1]; exact m.gl, by rw [h2, h7]; exact m.fn, by rw [h6]; exact m.fq, by rw [h3, h7]; exact m.mkc, m.kn, by rw [h7]; exact m.me, by rw [h7]; exact m.ex, by rw [h5]; exact m.exs, m.isa, m.cis, by rw [h3]; exact m.mks⟩
theorem s_lc (s : Snd Φ n) {elt tg iter : Expr} {ifs : List Expr} {scope : Scope} {pos : Pos} {c : C} {it : It} {g : Tg} {k : Option C} {own : List Nat} (ok : Ok Γ Φ X W) (h : compLC (n + 1) Γ elt tg iter ifs scope = some (c, it, g, k, own)) :
    PE X (.ListComp elt [⟨tg, iter, ifs, 0⟩] scope pos) (tR X.K X.mg D0 W (OutR X.K X.mg D0) (evE Φ (.lc c it g k own))) := by
  unfold compLC at h
  split at h
  · rename_i hb
    simp only [Bool.and_eq_true, Bool.not_eq_true'] at hb
    obtain ⟨hb, hho⟩ := hb
    obtain ⟨it', hi, z⟩ := Option.bind_eq_some_iff.mp h
    obtain ⟨g', hg, z⟩ := Option.bind_eq_some_iff.mp z
    split at z
    · rename_i hsl
      obtain ⟨c', hc, z⟩ := Option.bind_eq_some_iff.mp z
      obtain ⟨k', hk, z⟩ := Option.map_eq_some_iff.mp z
      cases z
      have bok : BlkOk X.N X.env.scope scope (ownOf Γ.N scope.names) := by
        rw [ok.N, ok.sc]; exact blkOk_by hb.1
      have okB : ∀ (s' : Shared) (H' : Hp) (C' : Addr) (cl : List (Str × Addr)) (fp : List Addr), Ok { Γ with sc := relS' scope Γ.sc, fnc := fun y => scope.names.lookup y == some .cell } Φ (X.blk s' H' scope (compEnvC scope cl C' X.env) fp) W0 := fun s' H' C' cl fp =>
        ⟨ok.N, by show relS scope X.env.scope = relS scope Γ.sc; rw [ok.sc], bok.kind, ok.nd, ok.calm, ok.hu, takes0, PassesOwn.never, fun x hx => hx, ok.mo.to ⟨rfl, rfl, rfl, rfl, rfl, rfl, rfl⟩⟩
      have hsl : ∀ i ∈ tgSlots g, i ∈ (ownOf Γ.N scope.names).map (·.2) := fun i hi => by
        have := List.all_eq_true.mp hsl i hi
        simpa using this
      refine pe_imp (pe_lc (own := ownOf Γ.N scope.names) (wi := tI X.K X.mg D0 W (evI Φ it)) (g := fun v σ H Q => ∃ D1, VL.tG X.K X.mg D1 W0 (tgSlots g) (evG Φ g) v σ H Q) (tt := ttC X.K X.mg (evC Φ k)) (te := fun σ H Q => ∃ D1, tR X.K X.mg D1 W0 (OutR X.K X.mg D1) (evE Φ c) σ H Q)
        (ok.calm hho) ok.N' (s.i D0 ok hi) bok ?_ ?_ ?_ (folded hb.2)) fun σ H Q q => lc_imp hsl (by simpa only [evE] using q)
      · intro s' H' C' cl fp
        exact ⟨fun pins s2 σ H v u Q I r ⟨D1, q⟩ => (s.g D1 (okB s' H' C' cl fp) hg).run pins s2 σ H v u Q I r q⟩
      · intro s' H' C' cl fp
        exact s.cif (okB s' H' C' cl fp) hk
      · intro s' H' C' cl fp
        exact ⟨fun pins s2 σ H Q I ⟨D1, q⟩ => (s.e D1 (okB s' H' C' cl fp) hc).run pins s2 σ H Q I q⟩
    · cases z
  · cases h
theorem s_i (s : Snd Φ n) {tg e : Expr} {it : It} (ok : Ok Γ Φ X W) (h : compI (n + 1) Γ tg e = some it) : PI X tg e (tI X.K X.mg D0 W (evI Φ it)) := by
  have any : ∀ {e : Expr} {c : C}, compE n Γ e = some c → PI X tg e (tI X.K X.mg D0 W (evI Φ (.c c))) := fun hc => pi_imp (pi_any (s.o D0 ok hc)) fun σ H Q q => i_c_imp (by simpa only [evI] using q)
  unfold compI at h
  split at h
  · rename_i x p args p2
    split at h
    · rename_i hgo
      simp only [Bool.and_eq_true] at hgo
      have hg := ok.gl hgo.1
      split at h
      · rename_i hx; subst hx
        have hm := ok.mo.bl "range" (by decide)
        split at h
        · rename_i a
          obtain ⟨c, hc, z⟩ := Option.map_eq_some_iff.mp h
          subst z
          exact pi_imp (pi_range1 hg hm (pa_cons (s.o D0 ok hc) pa_nil (notStar hc)) (notStar hc)) fun σ H Q q => i_r1_imp (by simpa only [evI] using q)
        · rename_i a b
          obtain ⟨c, hc, z⟩ := Option.bind_eq_some_iff.mp h
          obtain ⟨d, hd, z⟩ := Option.map_eq_some_iff.mp z
          subst z
          exact pi_imp (pi_range2 hg hm (pa_cons (s.o D0 ok hc) (pa_cons (s.o D0 ok hd) pa_nil (notStar hd)) (notStar hc)) (by rw [notStar hc, notStar hd]; rfl) (notStar hd)) fun σ H Q q => i_r2_imp (by simpa only [evI] using q)
        · rename_i a b c
          obtain ⟨ca, ha, z⟩ := Option.bind_eq_some_iff.mp h
          obtain ⟨cb, hb, z⟩ := Option.bind_eq_some_iff.mp z
          obtain ⟨cc, hc, z⟩ := Option.map_eq_some_iff.mp z
          subst z
          exact pi_imp (pi_range3 hg hm (pa_cons (s.o D0 ok ha) (pa_cons (s.o D0 ok hb) (pa_cons (s.o D0 ok hc) pa_nil (notStar hc)) (notStar hb)) (notStar ha)) (by rw [notStar ha, notStar hb, notStar hc]) (by rw [notStar hb, notStar hc]; rfl)) fun σ H Q q => i_r3_imp (by simpa only [evI] using q)
        · cases h
      · split at h
        · rename_i hx; subst hx
          have hm := ok.mo.bl "enumerate" (by decide)
          split at h
          · rename_i a
            split at h
            · rename_i ht
              obtain ⟨c, hc, z⟩ := Option.map_eq_some_iff.mp h
              subst z
              cases tg with
              | Tuple elts kk tp => exact pi_imp (pi_enumA hg hm (pa_cons (s.o D0 ok hc) pa_nil (notStar hc)) (notStar hc)) fun σ H Q q => i_enum_imp (by simpa only [evI] using q)
              | _ => cases ht
            · cases h
          · cases h
        · split at h
          · rename_i hx; subst hx
            have hm := ok.mo.bl "zip" (by decide)
            split at h
            · rename_i a b
              split at h
              · rename_i ht
                obtain ⟨c, hc, z⟩ := Option.bind_eq_some_iff.mp h
                obtain ⟨d, hd, z⟩ := Option.map_eq_some_iff.mp z
                subst z
                cases tg with
                | Tuple elts kk tp => exact pi_imp (pi_zip hg hm (pa_cons (s.o D0 ok hc) (pa_cons (s.o D0 ok hd) pa_nil (notStar hd)) (notStar hc)) (notStar hc) (by rw [notStar hd]; rfl)) fun σ H Q q => i_zip_imp (by simpa only [evI] using q)
                | _ => cases ht
              · cases h
            · cases h
          · obtain ⟨c, hc, z⟩ := Option.map_eq_some_iff.mp h
            subst z
            exact any hc
    · cases h
  · obtain ⟨c, hc, z⟩ := Option.map_eq_some_iff.mp h
    subst z
    exact any hc
end
end VL

set_option maxHeartbeats 4000000
namespace VL
open PySem PySem.Spec PyProof.Rows L2

section
variable {Φ : Ft} {n : Nat} {Γ : Ct} {X : Cx} {W : WX} {D0 : Addr → Prop}
theorem boot_isi : bootBuiltins "isinstance" = some (.builtin "isinstance") := by decide +kernel
theorem tyNames_ok : (tyNames.all fun p => decide (bootBuiltins p.1 = some (.type p.2)) && decide (p.1 ∈ bnames) && decide (p.1 ≠ "__name__")) = true := by decide +kernel
theorem compL_one {n : Nat} {a : Expr} {as : List Expr} {cs : List C} (h : compL n Γ (a :: as) = some cs) : ∃ (m : Nat) (c : C) (ds : List C), n = m + 1 ∧ compE m Γ a = some c ∧ compL m Γ as = some ds ∧ cs = c :: ds := by
  cases n with
  | zero => simp [compL] at h
  | succ n =>
    unfold compL at h
    obtain ⟨c, hc, z⟩ := Option.bind_eq_some_iff.mp h
    obtain ⟨ds, hd, z⟩ := Option.map_eq_some_iff.mp z
    exact ⟨n, c, ds, rfl, hc, hd, z.symm⟩
theorem ktOf_v {b : Bi} {as : List Expr} (h : b ≠ .sortedSet ∧ b ≠ .lenSet) : biV (ktOf b as) = biV b ∧ (ktOf b as ≠ .sortedSet ∧ ktOf b as ≠ .lenSet) := by
  unfold ktOf
  split
  · exact ⟨rfl, by decide, by decide⟩
  · exact ⟨rfl, h⟩
theorem s_call (s : Snd Φ n) {x : Str} {args : List Expr} {p pos : Pos} {c : C} (ok : Ok Γ Φ X W) (h : compCall (n + 1) Γ x args = some c) (hgl : glB Γ.sc x = true) (hok : okName x = true) :
    PE X (.Call (.Name x p) args [] pos) (tR X.K X.mg D0 W (OutR X.K X.mg D0) (evE Φ c)) := by
  have hg := ok.gl hgl
  obtain ⟨k1, k2, k3⟩ := okName_is hok
  unfold compCall at h
  split at h
  · rename_i hx
    split at h
    · cases h
    rename_i hcnd
    split at h
    · rename_i how
      split at h
      · cases h
      · rename_i a as
        obtain ⟨a', ha, z⟩ := Option.bind_eq_some_iff.mp h
        obtain ⟨cs, hcs, z⟩ := Option.map_eq_some_iff.mp z
        subst z
        cases hF : Φ.fn x with
        | none => exact pe_vac fun env => by simp only [evE, hF]
        | some F =>
          obtain ⟨f, fd, ps, k, hm, hk, hb, FO, hr⟩ := ok.mo.fn x F hx how.2 hF
          have par : PA X as (fun σ H Q => ∃ D1, tA X.K X.mg D1 W (OpdsR X.K X.mg D1) (argO F.pk.tail cs (evL Φ cs)) σ H Q) := ⟨fun pos pins s' σ H Q I ⟨D1, q⟩ => (s.la D1 F.pk.tail ok hcs).run pos pins s' σ H Q I q⟩
          refine pe_imp (pe_callS FO hr hg hm hk hb (fun σ => passAt ok.tk σ) (pa_cons (s.e D0 ok ha) par (notStar ha)) k1 (notStar ha) (backTo_any (compL_stars hcs).1)) fun σ H Q q => ?_
          simp only [evE, hF] at q
          exact callO_imp q
    · obtain ⟨cs, hcs, z⟩ := Option.map_eq_some_iff.mp h
      subst z
      cases hF : Φ.fn x with
      | none => exact pe_vac fun env => by simp only [evE, hF]
      | some F =>
        cases args with
        | nil => simp at hcnd
        | cons a as =>
          obtain ⟨m, c, ds, rfl, hc, hd, rfl⟩ := compL_one hcs
          cases hhot : Γ.hot with
          | true =>
            rw [hhot] at hcnd
            have hx2 : x ∈ Γ.hfs := by simpa using hcnd
            obtain ⟨f, fd, ps, k, hm, hk, hb, FO, hr⟩ := ok.mo.fq x F hx2 hF
            refine pe_imp (pe_callQ FO hr hg hm hk hb (fun σ => passAt ok.tk σ) (s.la D0 F.pk ok hcs) k1 (notStar hc) (backTo_any (compL_stars hd).1)) fun σ H Q q => ?_
            simp only [evE, hF] at q
            exact callF_imp q
          | false =>
          obtain ⟨f, fd, ps, k, hm, hk, hb, FO, hr⟩ := ok.mo.fn x F hx hhot hF
          refine pe_imp (pe_callS FO hr hg hm hk hb (fun σ => passAt ok.tk σ) (s.la D0 F.pk ok hcs) k1 (notStar hc) (backTo_any (compL_stars hd).1)) fun σ H Q q => ?_
          simp only [evE, hF] at q
          exact callF_imp q
  · split at h
    · rename_i hx
      split at h
      · cases h
      · obtain ⟨cs, hcs, z⟩ := Option.map_eq_some_iff.mp h
        subst z
        cases hF : Φ.mkf x with
        | none => exact pe_vac fun env => by simp only [evE, hF]
        | some fn =>
          rename_i hcnd
          cases args with
          | nil => simp at hcnd
          | cons a as =>
            have hhot : Γ.hot = false := by simpa using hcnd
            obtain ⟨C, f, fd, ps, k, hm, M, FO, hr, hb⟩ := ok.mo.mkc x fn hx hhot hF
            obtain ⟨m, c, ds, rfl, hc, hd, rfl⟩ := compL_one hcs
            refine pe_imp (pe_make (E := fun _ _ _ => False) M FO hr hg hm hb .nil (passes_call ok.tk fun _ _ _ _ z => z.elim) (s.lv D0 ok hcs) k1 (notStar hc) (backTo_any (compL_stars hd).1)) fun σ H Q q => ?_
            simp only [evE, hF] at q
            exact mk_imp hm q
    · split at h
      · rename_i hx; subst hx
        split at h
        · rename_i a kx kp
          split at h
          · rename_i hgo
            simp only [Bool.and_eq_true] at hgo
            obtain ⟨a', ha, z⟩ := Option.bind_eq_some_iff.mp h
            split at z
            · rename_i t ht
              cases z
              have hm := List.all_eq_true.mp tyNames_ok (kx, t) (PySem.mem_of_lookup ht)
              simp only [Bool.and_eq_true, decide_eq_true_eq] at hm
              obtain ⟨q1, q2, q3⟩ := okName_is hgo.2
              have hb : PE X (.Name kx kp) (tC (.ty t)) := pe_bltn (ok.gl hgo.1) (ok.mo.bl kx hm.1.2) hm.1.1 rfl q3 q1
              exact pe_imp (pe_callB call_isiX hg (ok.mo.bl "isinstance" (by decide)) boot_isi (pa_cons (s.o D0 ok ha) (pa_cons hb pa_nil rfl) (notStar ha)) k3 k1 (notStar ha) rfl) fun σ H Q q => isi_imp (k := .ty t) (fun x fs h => let ⟨C, _, h1, h2, h3, _⟩ := ok.mo.ex x fs h; ⟨C, h1, h2, h3⟩) (fun c d fc fd C D h1 h2 h3 h4 => (ok.mo.isa c d fc fd C D h1 h2 h3 h4).2) ok.mo.cis ⟨rfl, rfl⟩ (by simpa only [evE] using q)
            · split at z
              · cases z
                obtain ⟨q1, q2, q3⟩ := okName_is hgo.2
                rename_i hke
                obtain ⟨fs, hx⟩ := Option.isSome_iff_exists.mp (ok.mo.exs kx hke)
                obtain ⟨C, k, hm, xk, xt, _⟩ := ok.mo.ex kx fs hx
                have hb : PE X (.Name kx kp) (tC (.ref C)) := pe_glob (ok.gl hgo.1) hm rfl q1
                exact pe_imp (pe_callB call_isiX hg (ok.mo.bl "isinstance" (by decide)) boot_isi (pa_cons (s.o D0 ok ha) (pa_cons hb pa_nil rfl) (notStar ha)) k3 k1 (notStar ha) rfl) fun σ H Q q => isi_imp (k := .own kx) (fun x fs h => let ⟨C, _, h1, h2, h3, _⟩ := ok.mo.ex x fs h; ⟨C, h1, h2, h3⟩) (fun c d fc fd C D h1 h2 h3 h4 => (ok.mo.isa c d fc fd C D h1 h2 h3 h4).2) ok.mo.cis ⟨C, hm, rfl, rfl⟩ (by simpa only [evE] using q)
              · split at z
                · rename_i hkc
                  cases z
                  obtain ⟨q1, q2, q3⟩ := okName_is hgo.2
                  obtain ⟨fs, hx⟩ := Option.isSome_iff_exists.mp (ok.mo.mks kx hkc.1)
                  obtain ⟨C, _, _, _, _, hm, _⟩ := ok.mo.mkc kx fs hkc.1 hkc.2 hx
                  have hb : PE X (.Name kx kp) (tC (.ref C)) := pe_glob (ok.gl hgo.1) hm rfl q1
                  exact pe_imp (pe_callB call_isiX hg (ok.mo.bl "isinstance" (by decide)) boot_isi (pa_cons (s.o D0 ok ha) (pa_cons hb pa_nil rfl) (notStar ha)) k3 k1 (notStar ha) rfl) fun σ H Q q => isi_imp (k := .own kx) (fun x fs h => let ⟨C, _, h1, h2, h3, _⟩ := ok.mo.ex x fs h; ⟨C, h1, h2, h3⟩) (fun c d fc fd C D h1 h2 h3 h4 => (ok.mo.isa c d fc fd C D h1 h2 h3 h4).2) ok.mo.cis ⟨C, hm, rfl, rfl⟩ (by simpa only [evE] using q)
                · cases z
          · cases h
        · cases h
      · split at h
        · cases h
        · rename_i a as
          split at h
          · cases h
          rename_i hho
          split at h
          · rename_i hss
            obtain ⟨hx, _, hgs⟩ := hss
            subst hx
            obtain ⟨cs, hcs, z⟩ := Option.map_eq_some_iff.mp h
            obtain ⟨e, he, hcs⟩ := Option.bind_eq_some_iff.mp hcs
            subst z
            obtain ⟨p2, pos2, rfl, rfl⟩ := setArg_is he
            obtain ⟨m, c, ds, rfl, hc, hd, rfl⟩ := compL_one hcs
            exact pe_imp (pe_sset (ok.calm (by simpa using hho)) hg (ok.gl hgs) (ok.mo.bl "sorted" (by decide)) (ok.mo.bl "set" (by decide)) (s.lo D0 ok hcs) (notStar hc)) fun σ H Q q => unL_imp (by simpa only [evE] using q)
          obtain ⟨b, hb, z⟩ := Option.bind_eq_some_iff.mp h
          obtain ⟨cs, hcs, z⟩ := Option.map_eq_some_iff.mp z
          subst z
          obtain ⟨hv, hmem, hne⟩ := biOf_is hb
          obtain ⟨m, c, ds, rfl, hc, hd, rfl⟩ := compL_one hcs
          obtain ⟨hkv, hkn⟩ := ktOf_v (b := b) (as := a :: as) hne
          exact pe_imp (pe_bi (o_bi (ktOf b (a :: as)) hkn.1 (ok.calm (by simpa using hho)) ok.hu) hg (ok.mo.bl x hmem) (by rw [hkv]; exact hv) (s.lo D0 ok hcs) k3 k1 (notStar hc) (backTo_any (compL_stars hd).1) hkn) fun σ H Q q => unL_imp (by simpa only [evE] using q)
theorem few {env : Env} {cpos : Pos} {n : Nat} {es : List Expr} {cs : List C} (h : compL n Γ es = some cs) (hl : es.length ≤ 5) : ((backTo cpos (starEach es env)).all (fun x => !x.1) && (backToKw cpos (keywordEach [] env)).all (fun x => x.1.isSome)
      && decide (es.length + ([] : List Keyword).length + (if ([] : List Keyword).isEmpty then 0 else 1) < 30)) = true := by
  have h1 : (backTo cpos (starEach es env)).all (fun x => !x.1) = true := by
    have := backTo_any (pos := cpos) (compL_stars (env := env) h).1
    rw [List.all_eq_not_any_not]
    simp only [Bool.not_not]
    rw [this]; rfl
  rw [h1]
  have : es.length + 0 + 0 < 30 := by omega
  simpa [keywordEach, backToKw] using this
theorem evalMeth {o : Expr} {m : Str} {env : Env} {args : List Expr} {apos pos : Pos} (hb : attributeBase o m env (eval o env) = eval o env)
    (hf : ((backTo pos (starEach args env)).all (fun x => !x.1) && (backToKw pos (keywordEach [] env)).all (fun x => x.1.isSome) && decide (args.length + ([] : List Keyword).length + (if ([] : List Keyword).isEmpty then 0 else 1) < 30)) = true) (hl : (apos.endLine == pos.line) = true) :
    eval (.Call (.Attribute o m apos) args [] pos) env = (do
      let ov ← eval o env
      standAt apos.atName
      let (f, first) ← holding [ov] (getMethod ov m (do return (← importBound o env).getD true))
      callWith pos f first (backTo pos (starEach args env)) (backToKw pos (keywordEach [] env))) := by
  have hk : (backToKw pos (keywordEach [] env)) = [] := rfl
  have hf' : methodCallForm (args.length + ([] : List Keyword).length) (backTo pos (starEach args env)) (backToKw pos (keywordEach [] env)) = true := hf
  show (attributeBase o m env (eval o env) >>= fun ov => standAt apos.atName >>= fun _ => methodCall o m apos pos env ov (args.length + ([] : List Keyword).length) (backTo pos (starEach args env)) (backToKw pos (keywordEach [] env))) = _
  rw [hb]
  have e1 : ∀ ov, calleeOf true o env ov m = getMethod ov m (do return (← importBound o env).getD true) := fun ov => rfl
  have e2 : methodCallPos true o env apos pos = pure pos := by
    unfold methodCallPos
    rw [hl]
    rfl
  unfold methodCall
  simp only [hf', e1, e2, pure_bind]
theorem vals_len : ∀ {ms : List (M Out)} {env env' : En} {o : List T}, vals ms env = .ok o env' → o.length = ms.length
  | [], env, env', o, h => by cases h; rfl
  | m :: ms, env, env', o, h => by
    unfold vals at h
    cases e : m env with
    | stuck => simp only [e, bind_stuck] at h; cases h
    | exc x env1 => simp only [e, bind_exc] at h; cases h
    | ok p env1 =>
      simp only [e, bind_ok] at h
      cases e2 : vals ms env1 with
      | stuck => simp only [e2, bind_stuck] at h; cases h
      | exc x env2 => simp only [e2, bind_exc] at h; cases h
      | ok os env2 =>
        simp only [e2, bind_ok] at h
        cases h
        simp [vals_len e2]
theorem mm_mu {i : Nat} {x : Str} {p apos cpos : Pos} {k : Mm} {args : List Expr} {cs : List C} {m : Str} (s : Snd Φ n) (ok : Ok Γ Φ X W) (hk : mmOf m = some k) (hi : ixOf Γ x = some i) (hcs : compL n Γ args = some cs) (hline : (apos.endLine == cpos.line) = true) (hl : args.length ≤ 5) :
    PE X (.Call (.Attribute (.Name x p) m apos) args [] cpos) (tR X.K X.mg D0 W (OutR X.K X.mg D0) (evE Φ (.mu k i cs))) := by
  obtain ⟨h1, h2, h3, h4⟩ := ok.slot hi
  have ho : PE X (.Name x p) (tVar i) := pe_var h1 h2 h3 h4
  unfold mmOf at hk
  split at hk
  · rename_i hm; subst hm; cases hk
    cases args with
    | nil =>
      cases n <;> simp [compL] at hcs
      subst hcs
      refine pe_false fun σ H Q q => ?_
      have q : tR X.K X.mg D0 W (OutR X.K X.mg D0) (mutS .append i (vals (evL Φ []))) σ H Q := by simpa only [evE] using q
      obtain ⟨v, _, _, q⟩ := mutS_imp q
      obtain ⟨env, R, q⟩ := q
      have q := q [] _ Step.refl R .nil
      obtain ⟨D, a, os, ts, us, us', r, rfl, _, _, _, r0, em, _⟩ := q
      cases r0
      cases em
    | cons a as =>
      obtain ⟨m, c, ds, rfl, hc, hd, rfl⟩ := compL_one hcs
      exact pe_imp (pe_bm F.plainAttrs_list F.slot_list_append F.type_list_append mt_append ho (s.lv D0 ok hcs) rfl (few hcs hl) hline (notStar hc) (backTo_any (compL_stars hd).1)) fun σ H Q q => by
        have q : tR X.K X.mg D0 W (OutR X.K X.mg D0) (mutS .append i (vals (evL Φ (c :: ds)))) σ H Q := by simpa only [evE] using q
        obtain ⟨v, sv, ty, q⟩ := mutS_imp q
        exact ⟨v, sv, ty, by
          obtain ⟨env, R, q⟩ := q
          refine ⟨env, R, ?_⟩
          revert q
          cases vals (evL Φ (c :: ds)) env with
          | stuck => exact id
          | exc x e => exact id
          | ok o e => exact fun q vs H1 S R1 r => rm_append (q vs H1 S R1 r)⟩
  · split at hk
    · rename_i hm; subst hm; cases hk
      cases args with
      | nil =>
        cases n <;> simp [compL] at hcs
        subst hcs
        exact pe_imp (pe_bm0 F.plainAttrs_list F.slot_list_pop F.type_list_pop mt_pop ho rfl hline) fun σ H Q q => by
          have q : tR X.K X.mg D0 W (OutR X.K X.mg D0) (mutS .pop i (vals (evL Φ []))) σ H Q := by simpa only [evE] using q
          obtain ⟨v, sv, ty, env, R, q⟩ := mutS_imp q
          exact ⟨v, sv, ty, rm_pop (q [] _ Step.refl R .nil)⟩
      | cons a as =>
        obtain ⟨m, c, ds, rfl, hc, hd, rfl⟩ := compL_one hcs
        exact pe_imp (pe_bm F.plainAttrs_list F.slot_list_pop F.type_list_pop mt_popAt ho (s.lv D0 ok hcs) rfl (few hcs hl) hline (notStar hc) (backTo_any (compL_stars hd).1)) fun σ H Q q => by
          have q : tR X.K X.mg D0 W (OutR X.K X.mg D0) (mutS .pop i (vals (evL Φ (c :: ds)))) σ H Q := by simpa only [evE] using q
          obtain ⟨v, sv, ty, q⟩ := mutS_imp q
          exact ⟨v, sv, ty, by
            obtain ⟨env, R, q⟩ := q
            refine ⟨env, R, ?_⟩
            revert q
            cases ev : vals (evL Φ (c :: ds)) env with
            | stuck => exact id
            | exc x e => exact id
            | ok o e =>
              intro q vs H1 S R1 r
              have q := q vs H1 S R1 r
              have hlen := vals_len ev
              cases r with
              | nil => simp [evL] at hlen
              | cons r0 l0 =>
                cases l0 with
                | nil => exact rm_popAt q
                | cons r1 l1 =>
                  obtain ⟨D, a, os, ts, us, us', r, rfl, _, _, _, r0, em, _⟩ := q
                  cases r0 with
                  | cons _ l => cases l with
                    | cons _ _ => simp [mutT] at em⟩
    · split at hk
      · rename_i hm; subst hm; cases hk
        cases args with
        | nil =>
          cases n <;> simp [compL] at hcs
          subst hcs
          exact pe_imp (pe_bm0 F.plainAttrs_list F.slot_list_clear F.type_list_clear mt_clear ho rfl hline) fun σ H Q q => by
            have q : tR X.K X.mg D0 W (OutR X.K X.mg D0) (mutS .clear i (vals (evL Φ []))) σ H Q := by simpa only [evE] using q
            obtain ⟨v, sv, ty, env, R, q⟩ := mutS_imp q
            exact ⟨v, sv, ty, rm_clear (q [] _ Step.refl R .nil)⟩
        | cons a as =>
          obtain ⟨m, c, ds, rfl, hc, hd, rfl⟩ := compL_one hcs
          exact pe_imp (pe_bm F.plainAttrs_list F.slot_list_clear F.type_list_clear mt_clear ho (s.lv D0 ok hcs) rfl (few hcs hl) hline (notStar hc) (backTo_any (compL_stars hd).1)) fun σ H Q q => by
            have q : tR X.K X.mg D0 W (OutR X.K X.mg D0) (mutS .clear i (vals (evL Φ (c :: ds)))) σ H Q := by simpa only [evE] using q
            obtain ⟨v, sv, ty, q⟩ := mutS_imp q
            exact ⟨v, sv, ty, by
              obtain ⟨env, R, q⟩ := q
              refine ⟨env, R, ?_⟩
              revert q
              cases vals (evL Φ (c :: ds)) env with
              | stuck => exact id
              | exc x e => exact id
              | ok o e =>
                intro q vs H1 S R1 r
                have q1 := q vs H1 S R1 r
                obtain ⟨D, a, os, ts, us, us', r', z1, _, _, _, r0, em, _⟩ := id q1
                cases ts with
                | nil => cases r0; exact rm_clear q1
                | cons _ _ => simp [mutT] at em⟩
      · cases hk
theorem s_meth (s : Snd Φ n) {o : Expr} {m : Str} {args : List Expr} {apos cpos : Pos} {c : C} (ok : Ok Γ Φ X W) (h : compMeth (n + 1) Γ o m args = some c) (hline : (apos.endLine == cpos.line) = true) (hl : args.length ≤ 5) :
    PE X (.Call (.Attribute o m apos) args [] cpos) (tR X.K X.mg D0 W (OutR X.K X.mg D0) (evE Φ c)) := by
  unfold compMeth at h
  split at h
  · rename_i hx
    split at h
    · cases h
    rename_i hho
    have hho : Γ.hot = false := by simpa using hho
    obtain ⟨o', ho, z⟩ := Option.bind_eq_some_iff.mp h
    obtain ⟨cs, hcs, z⟩ := Option.map_eq_some_iff.mp z
    subst z
    cases args with
    | nil =>
      cases n <;> simp [compL] at hcs
      subst hcs
      refine pe_imp (pe_methD0 (m := m) (tas := fun pk => tA X.K X.mg D0 W (OpdsR X.K X.mg D0) (argO pk [] (evL Φ []))) ok.tk (s.o D0 ok ho) (fun pk σ H Q q => ?_) (evalMeth (abase ho) rfl hline)) fun σ H Q q => ?_
      · obtain ⟨env, R, q⟩ := q
        have e : evL Φ [] = [] := by simp only [evL]
        rw [e] at q
        cases pk with
        | nil => exact q [] H Step.refl R .nil
        | cons p ps => cases p <;> exact q.elim
      · simp only [evE] at q
        exact ometh_imp (as := fun pk => argO pk [] (evL Φ [])) rfl rfl (fun c F C h1 h2 => ok.mo.me c m F C hho h1 h2) q
    | cons a as =>
      obtain ⟨m', c, ds, rfl, hc, hd, rfl⟩ := compL_one hcs
      refine pe_imp (pe_methD (m := m) (tas := fun pk => tA X.K X.mg D0 W (OpdsR X.K X.mg D0) (argO pk (c :: ds) (evL Φ (c :: ds)))) ok.tk (s.o D0 ok ho) (fun pk => s.la D0 pk ok hcs) (notStar hc) (backTo_any (compL_stars hd).1) (evalMeth (abase ho) (few hcs hl) hline)) fun σ H Q q => ?_
      simp only [evE] at q
      exact ometh_imp (as := fun pk => argO pk (c :: ds) (evL Φ (c :: ds))) rfl rfl (fun c F C h1 h2 => ok.mo.me c m F C hho h1 h2) q
  · split at h
    · rename_i k x p hk
      obtain ⟨i, hi, z⟩ := Option.bind_eq_some_iff.mp h
      obtain ⟨cs, hcs, z⟩ := Option.map_eq_some_iff.mp z
      subst z
      exact mm_mu s ok hk hi hcs hline hl
    · split at h
      · rename_i hm; subst hm
        split at h
        · rename_i a
          obtain ⟨o', ho, z⟩ := Option.bind_eq_some_iff.mp h
          obtain ⟨a', ha, z⟩ := Option.map_eq_some_iff.mp z
          subst z
          have hn : ∃ m, n = m + 1 := by
            cases n with
            | zero => simp [compE] at ha
            | succ m => exact ⟨m, rfl⟩
          obtain ⟨m, rfl⟩ := hn
          have hcs : compL (m + 1 + 1) Γ [a] = some [a'] := by
            unfold compL
            rw [ha]
            rfl
          refine pe_imp (pe_bm F.plainAttrs_list F.slot_list_index F.type_list_index mt_index (s.o D0 ok ho) (s_lo (D0 := D0) (W := W) s ok hcs) (abase ho) (few hcs hl) hline (notStar ha) rfl) fun σ H Q q => ?_
          simp only [evE] at q
          exact lix_imp (D0 := D0) (W := W) (by simpa only [evL] using q)
        · cases h
      split at h
      · cases h
      · rename_i hne
        obtain ⟨k, hk, z⟩ := Option.bind_eq_some_iff.mp h
        obtain ⟨o', ho, z⟩ := Option.bind_eq_some_iff.mp z
        obtain ⟨cs, hcs, z⟩ := Option.map_eq_some_iff.mp z
        subst z
        cases args with
        | nil => simp at hne
        | cons a as =>
          obtain ⟨m', c, ds, rfl, hc, hd, rfl⟩ := compL_one hcs
          unfold bmOf at hk
          split at hk
          · rename_i hm; subst hm; cases hk
            refine pe_imp (pe_bm F.plainAttrs_str F.slot_str_join F.type_str_join mt_join (s.o D0 ok ho) (s.lo D0 ok hcs) (abase ho) (few hcs hl) hline (notStar hc) (backTo_any (compL_stars hd).1)) fun σ H Q q => ?_
            simp only [evE] at q
            refine meth_imp (m := .join) ?_ q
            intro z vs H1 Q D ts d2 rp pq
            obtain ⟨out, e, k⟩ := pq
            unfold methT at e
            split at e
            · rename_i a' xs z1
              cases z1
              obtain ⟨ys, hys, e⟩ := Option.bind_eq_some_iff.mp e
              split at e
              · rename_i hsz
                cases e
                obtain ⟨v, rfl, r1⟩ := rp.one
                obtain ⟨p, us, rfl, h1, h2⟩ := r1.lst
                rw [strsT_eq hys] at h2
                rw [h2.strs] at h1
                exact ⟨z, p, ys, rfl, rfl, .inl (.inl (.inl h1)), Nat.le_trans hsz (by decide), k _ H1 (Same.refl H1) (.str _)⟩
              · cases e
            · cases e
          · cases hk
/-! ### expressions -/
theorem s_bool (s : Snd Φ n) {op : BoolOp} {es : List Expr} {pos : Pos} {c : C} (ok : Ok Γ Φ X W) (h : compE (n + 1) Γ (.BoolOp op es pos) = some c) :
    PE X (.BoolOp op es pos) (tR X.K X.mg D0 W (OutR X.K X.mg D0) (evE Φ c)) ∧ PW X (.BoolOp op es pos) (VL.tB X.K X.mg D0 W (evT Φ c)) := by
  unfold compE at h
  match es, h with
  | [], h => cases h
  | [a], h => cases h
  | [a, b], h =>
    obtain ⟨a', ha, z⟩ := Option.bind_eq_some_iff.mp h
    obtain ⟨b', hb, z⟩ := Option.map_eq_some_iff.mp z
    cases op with
    | And =>
      subst z
      refine ⟨pe_imp (pe_and (s.o D0 ok ha) (pe_one (s.e D0 ok hb))) fun σ H Q q => ?_, ⟨fun whole pins s' σ H Q I q => (pw_and (s.t D0 ok ha) (pw_and1 (s.t D0 ok hb))).run whole pins s' σ H Q I ?_⟩⟩
      · simp only [evE] at q; exact and_imp q
      · simp only [evT] at q; exact tand_imp q
    | Or =>
      subst z
      refine ⟨pe_imp (pe_or (s.o D0 ok ha) (pe_one (s.e D0 ok hb))) fun σ H Q q => ?_, ⟨fun whole pins s' σ H Q I q => (pw_or (s.t D0 ok ha) (pw_or1 (s.t D0 ok hb))).run whole pins s' σ H Q I ?_⟩⟩
      · simp only [evE] at q; exact or_imp q
      · simp only [evT] at q; exact tor_imp q
  | a :: b :: b2 :: r, h =>
    obtain ⟨a', ha, z⟩ := Option.bind_eq_some_iff.mp h
    obtain ⟨b', hb, z⟩ := Option.map_eq_some_iff.mp z
    cases op with
    | And =>
      subst z
      refine ⟨pe_imp (pe_and (s.o D0 ok ha) (s.e D0 ok hb)) fun σ H Q q => ?_, ⟨fun whole pins s' σ H Q I q => (pw_and (s.t D0 ok ha) (s.w D0 ok hb)).run whole pins s' σ H Q I ?_⟩⟩
      · simp only [evE] at q; exact and_imp q
      · simp only [evT] at q; exact tand_imp q
    | Or =>
      subst z
      refine ⟨pe_imp (pe_or (s.o D0 ok ha) (s.e D0 ok hb)) fun σ H Q q => ?_, ⟨fun whole pins s' σ H Q I q => (pw_or (s.t D0 ok ha) (s.w D0 ok hb)).run whole pins s' σ H Q I ?_⟩⟩
      · simp only [evE] at q; exact or_imp q
      · simp only [evT] at q; exact tor_imp q
/-- a comparison -/
theorem s_cmp1 (s : Snd Φ n) {a b : Expr} {op : CmpOp} {pos : Pos} {a' b' : C} (ok : Ok Γ Φ X W) (ha : compE n Γ a = some a') (hb : compE n Γ b = some b') :
    PE X (.Compare a [op] [b] pos) (tR X.K X.mg D0 W (OutR X.K X.mg D0) (evE Φ (.cmp op a' b'))) ∧ PT X (.Compare a [op] [b] pos) (VL.tB X.K X.mg D0 W (evT Φ (.cmp op a' b'))) := by
  have hm := behind (op := op) (slice_none hb).2
  refine ⟨pe_imp (pe_cmpR (o_cmp op ok.hu) (s.o D0 ok ha) (s.o D0 ok hb) hm) fun σ H Q q => ?_, pt_imp (pt_cmpR (o_cmp op ok.hu) (s.o D0 ok ha) (s.o D0 ok hb) hm) fun σ H Q q => ?_⟩
  · simp only [evE] at q; exact cmp_imp q
  · simp only [evT] at q; exact tcmp_imp q
theorem dkOf_is {b : Expr} {i : Nat} (h : dkOf Γ b = some i) : ∃ x pos, b = .Name x pos ∧ ixOf Γ x = some i := by
  unfold dkOf at h
  split at h
  · obtain ⟨j, hj, z⟩ := Option.bind_eq_some_iff.mp h
    split at z
    · cases z; exact ⟨_, _, rfl, hj⟩
    · cases z
  · cases h
theorem inD_is {K : PySem.W.Frag} {mg : Str → Option Value} {H : Hp} {D : Addr → Prop} {d k : T} {dv kv : V} {r : Bool} (h : inD d k = some r) (p : RepP K mg H D d dv) (q : RepP K mg H D k kv) : ∃ (a : Addr) (o : Option V), dv = .ref a ∧ DGet H a kv o ∧ o.isSome = r := by
  unfold inD at h
  split at h
  · rename_i hk
    obtain ⟨a, o, e, hd, hm⟩ := dget_is hk p q
    refine ⟨a, o, e, hd, ?_⟩
    cases eg : getK (ksT d).1 (ksT d).2 k with
    | none => rw [eg] at hm h; rw [hm]; exact Option.some.inj h
    | some t => rw [eg] at hm h; obtain ⟨v, rfl, _⟩ := hm; exact Option.some.inj h
  · cases h
theorem getD_is {K : PySem.W.Frag} {mg : Str → Option Value} {H : Hp} {D : Addr → Prop} {d k t : T} {dv kv : V} (h : getD' d k = some t) (p : RepP K mg H D d dv) (q : RepP K mg H D k kv) : ∃ (a : Addr) (v : V), dv = .ref a ∧ DGet H a kv (some v) ∧ Rep K mg H D t v := by
  unfold getD' at h
  split at h
  · rename_i hk
    obtain ⟨a, o, e, hd, hm⟩ := dget_is hk p q
    rw [h] at hm
    obtain ⟨v, rfl, r⟩ := hm
    exact ⟨a, v, e, hd, r⟩
  · cases h
theorem din_imp {K : PySem.W.Frag} {mg : Str → Option Value} {D0 : Addr → Prop} {W : WX} {σ : L2.St} {H : Hp} {neg : Bool} {m n : M Opnd} {Q : VK} (h : tR K mg D0 W (OutR K mg D0) (un2 m n fun k d => (inD d k).map fun r => .val (.bl (neg != r))) σ H Q) :
    tR K mg D0 W (OpdR K mg D0) m σ H fun y H1 => tR K mg D0 W (OpdR K mg D0) n σ H1 fun x H2 => ∃ a o, x = .ref a ∧ DGet H2 a y o ∧ Q (.bl (neg != o.isSome)) H2 := by
  obtain ⟨env, R, h⟩ := un2_imp h
  refine ⟨env, R, ?_⟩
  revert h
  cases m env with
  | stuck => exact id
  | exc x e => exact id
  | ok o e =>
    intro h v H1 S R1 ho
    obtain ⟨env1, R1', h⟩ := h v H1 S R1 ho
    refine ⟨env1, R1', ?_⟩
    revert h
    cases n env1 with
    | stuck => exact id
    | exc x e => exact id
    | ok o e =>
      intro h w H2 S2 R2 hp
      obtain ⟨D, t, u, d2, r1, r2, p⟩ := h w H2 S2 R2 hp
      cases ec : inD u t with
      | none => rw [ec] at p; obtain ⟨out, z, _⟩ := p; cases z
      | some b =>
        rw [ec] at p
        obtain ⟨a, o, e1, hd, hs⟩ := inD_is ec r2 r1
        exact ⟨a, o, e1, hd, by rw [hs]; exact p.of_val (.bl _)⟩
theorem tdin_imp {K : PySem.W.Frag} {mg : Str → Option Value} {D0 : Addr → Prop} {W : WX} {σ : L2.St} {H : Hp} {neg : Bool} {m n : M Opnd} {Q : Bool → Hp → Prop} (h : VL.tB K mg D0 W (bo2 m n fun k d => (inD d k).map fun r => neg != r) σ H Q) :
    tR K mg D0 W (OpdR K mg D0) m σ H fun y H1 => tR K mg D0 W (OpdR K mg D0) n σ H1 fun x H2 => ∃ a o, x = .ref a ∧ DGet H2 a y o ∧ Q (neg != o.isSome) H2 := by
  obtain ⟨env, R, h⟩ := bo2_imp h
  refine ⟨env, R, ?_⟩
  revert h
  cases m env with
  | stuck => exact id
  | exc x e => exact id
  | ok o e =>
    intro h v H1 S R1 ho
    obtain ⟨env1, R1', h⟩ := h v H1 S R1 ho
    refine ⟨env1, R1', ?_⟩
    revert h
    cases n env1 with
    | stuck => exact id
    | exc x e => exact id
    | ok o e =>
      intro h w H2 S2 R2 hp
      obtain ⟨D, t, u, d2, r1, r2, b, eb, q⟩ := h w H2 S2 R2 hp
      cases ec : inD u t with
      | none => rw [ec] at eb; cases eb
      | some c =>
        rw [ec] at eb
        cases eb
        obtain ⟨a, o, e1, hd, hs⟩ := inD_is ec r2 r1
        exact ⟨a, o, e1, hd, by rw [hs]; exact q⟩
theorem dget_imp {K : PySem.W.Frag} {mg : Str → Option Value} {D0 : Addr → Prop} {W : WX} {σ : L2.St} {H : Hp} {m n : M Opnd} {Q : VK} (h : tR K mg D0 W (OutR K mg D0) (un2 m n fun d k => (getD' d k).map Out.val) σ H Q) :
    tDGet (tR K mg D0 W (OpdR K mg D0) m) (tR K mg D0 W (OpdR K mg D0) n) σ H Q := by
  obtain ⟨env, R, h⟩ := un2_imp h
  refine ⟨env, R, ?_⟩
  revert h
  cases m env with
  | stuck => exact id
  | exc x e => exact id
  | ok o e =>
    intro h v H1 S R1 ho
    obtain ⟨env1, R1', h⟩ := h v H1 S R1 ho
    refine ⟨env1, R1', ?_⟩
    revert h
    cases n env1 with
    | stuck => exact id
    | exc x e => exact id
    | ok o e =>
      intro h w H2 S2 R2 hp
      obtain ⟨D, t, u, d2, r1, r2, p⟩ := h w H2 S2 R2 hp
      cases ec : getD' t u with
      | none => rw [ec] at p; obtain ⟨out, z, _⟩ := p; cases z
      | some b =>
        rw [ec] at p
        obtain ⟨a, v, e1, hd, hr⟩ := getD_is ec r1 r2
        exact ⟨a, v, e1, hd, p.of_val hr⟩
theorem s_din (s : Snd Φ n) {a b : Expr} {i : Nat} {pos : Pos} {a' : C} (ok : Ok Γ Φ X W) (ha : compE n Γ a = some a') (hb : dkOf Γ b = some i) :
    (PE X (.Compare a [.In] [b] pos) (tR X.K X.mg D0 W (OutR X.K X.mg D0) (evE Φ (.din false a' i))) ∧ PT X (.Compare a [.In] [b] pos) (VL.tB X.K X.mg D0 W (evT Φ (.din false a' i)))) ∧
    (PE X (.Compare a [.NotIn] [b] pos) (tR X.K X.mg D0 W (OutR X.K X.mg D0) (evE Φ (.din true a' i))) ∧ PT X (.Compare a [.NotIn] [b] pos) (VL.tB X.K X.mg D0 W (evT Φ (.din true a' i)))) := by
  obtain ⟨x, p, rfl, hi⟩ := dkOf_is hb
  obtain ⟨h1, h2, h3, h4⟩ := ok.slot hi
  have hu : X.A.units + 1 < cLine := by have := ok.hu; omega
  have ps := s_slotO (D0 := D0) (W := W) (pos := p) h1 h2 h3 h4
  refine ⟨⟨pe_imp (pe_cmp (pc_din hu (s.o D0 ok ha) ps) rfl) fun σ H Q q => ?_, pt_imp (pt_cmp (pc_din hu (s.o D0 ok ha) ps) rfl) fun σ H Q q => ?_⟩, pe_imp (pe_cmp (pc_dnotin hu (s.o D0 ok ha) ps) rfl) fun σ H Q q => ?_, pt_imp (pt_cmp (pc_dnotin hu (s.o D0 ok ha) ps) rfl) fun σ H Q q => ?_⟩
  · simp only [evE] at q
    have q := din_imp q
    simp only [Bool.false_bne] at q
    exact q
  · simp only [evT] at q
    have q := tdin_imp q
    simp only [Bool.false_bne] at q
    obtain ⟨env, R, q⟩ := q
    refine ⟨env, R, ?_⟩
    revert q
    cases opnd a' (evE Φ a') env with
    | stuck => exact id
    | exc x e => exact id
    | ok o e =>
      intro h v H1 S R1 ho
      obtain ⟨env1, R1', h⟩ := h v H1 S R1 ho
      refine ⟨env1, R1', ?_⟩
      revert h
      cases slotO i env1 with
      | stuck => exact id
      | exc x e => exact id
      | ok o e =>
        intro h w H2 S2 R2 hp
        obtain ⟨a, o, e1, hd, hs⟩ := h w H2 S2 R2 hp
        exact ⟨a, o, e1, hd, _, rfl, hs⟩
  · simp only [evE] at q
    have q := din_imp q
    simp only [Bool.true_bne] at q
    exact q
  · simp only [evT] at q
    have q := tdin_imp q
    simp only [Bool.true_bne] at q
    obtain ⟨env, R, q⟩ := q
    refine ⟨env, R, ?_⟩
    revert q
    cases opnd a' (evE Φ a') env with
    | stuck => exact id
    | exc x e => exact id
    | ok o e =>
      intro h v H1 S R1 ho
      obtain ⟨env1, R1', h⟩ := h v H1 S R1 ho
      refine ⟨env1, R1', ?_⟩
      revert h
      cases slotO i env1 with
      | stuck => exact id
      | exc x e => exact id
      | ok o e =>
        intro h w H2 S2 R2 hp
        obtain ⟨a, o, e1, hd, hs⟩ := h w H2 S2 R2 hp
        exact ⟨a, o, e1, hd, _, rfl, hs⟩
theorem s_isN (s : Snd Φ n) {a b : Expr} {pos : Pos} {a' : C} (ok : Ok Γ Φ X W) (ha : compE n Γ a = some a') (hb : isNone b = true) :
    (PE X (.Compare a [.Is] [b] pos) (tR X.K X.mg D0 W (OutR X.K X.mg D0) (evE Φ (.isN a'))) ∧ PT X (.Compare a [.Is] [b] pos) (VL.tB X.K X.mg D0 W (evT Φ (.isN a')))) ∧
    (PE X (.Compare a [.IsNot] [b] pos) (tR X.K X.mg D0 W (OutR X.K X.mg D0) (evE Φ (.notN a'))) ∧ PT X (.Compare a [.IsNot] [b] pos) (VL.tB X.K X.mg D0 W (evT Φ (.notN a')))) := by
  unfold isNone at hb
  split at hb
  · refine ⟨⟨pe_imp (pe_cmp (pc_isN (s.o D0 ok ha)) rfl) fun σ H Q q => ?_, pt_imp (pt_cmp (pc_isN (s.o D0 ok ha)) rfl) fun σ H Q q => ?_⟩, pe_imp (pe_cmp (pc_notN (s.o D0 ok ha)) rfl) fun σ H Q q => ?_, pt_imp (pt_cmp (pc_notN (s.o D0 ok ha)) rfl) fun σ H Q q => ?_⟩
    · simp only [evE] at q; exact isN_imp q
    · simp only [evT] at q; exact tisN_imp q
    · simp only [evE] at q; exact notN_imp q
    · simp only [evT] at q; exact tnotN_imp q
  · cases hb
theorem s_chain (s : Snd Φ n) {a b d : Expr} {op op' : CmpOp} {pos : Pos} {a' b' d' : C} (ok : Ok Γ Φ X W) (ha : compE n Γ a = some a') (hb : compE n Γ b = some b') (hd : compE n Γ d = some d') :
    PE X (.Compare a [op, op'] [b, d] pos) (tR X.K X.mg D0 W (OutR X.K X.mg D0) (evE Φ (.chain op op' a' b' d'))) ∧ PT X (.Compare a [op, op'] [b, d] pos) (VL.tB X.K X.mg D0 W (evT Φ (.chain op op' a' b' d'))) := by
  have hm : lastMarks [op, op'] [b, d] = false := behind (op := op') (slice_none hd).2
  refine ⟨pe_imp (pe_chain (o_cmp op ok.hu) (o_cmp op' ok.hu) (s.o D0 ok ha) (s.o D0 ok hb) (s.o D0 ok hd) hm) fun σ H Q q => ?_, pt_imp (pt_chain (o_cmp op ok.hu) (o_cmp op' ok.hu) (s.o D0 ok ha) (s.o D0 ok hb) (s.o D0 ok hd) hm) fun σ H Q q => ?_⟩
  · simp only [evE] at q; exact chain_imp q
  · simp only [evT] at q; exact tchain_imp q
end
end VL

set_option maxHeartbeats 4000000
namespace VL
open PySem PySem.Spec PyProof.Rows L2

section
variable {Φ : Ft} {n : Nat} {Γ : Ct} {X : Cx} {W : WX} {D0 : Addr → Prop}
/-- both: the value, the test -/
def Both (Φ : Ft) (X : Cx) (W : WX) (D0 : Addr → Prop) (e : Expr) (c : C) : Prop := PE X e (tR X.K X.mg D0 W (OutR X.K X.mg D0) (evE Φ c)) ∧ PT X e (VL.tB X.K X.mg D0 W (evT Φ c))
theorem both_vac {e : Expr} {c : C} (h : PE X e (tR X.K X.mg D0 W (OutR X.K X.mg D0) (evE Φ c))) (ht : evT Φ c = fun _ => .stuck) : Both Φ X W D0 e c := ⟨h, pt_vac fun env => by rw [ht]⟩
theorem both_tru {m : Nat} {e : Expr} {c : C} (ok : Ok Γ Φ X W) (hc : compE m Γ e = some c) (hp : plainT e = true) (h : PE X e (tR X.K X.mg D0 W (OutR X.K X.mg D0) (evE Φ c))) (ht : evT Φ c = tru1 (opnd c (evE Φ c))) : Both Φ X W D0 e c :=
  ⟨h, by rw [ht]; exact pt_plain (opd_of hc ok h) hp⟩
theorem cst_tru (t : T) : evT Φ (.cst t) = tru1 (opnd (.cst t) (evE Φ (.cst t))) := by
  simp only [evT, evE]
  rfl
theorem compCall_kind {n : Nat} {x : Str} {args : List Expr} {c : C} (h : compCall n Γ x args = some c) : (∃ f as, c = .fn f as) ∨ (∃ f as, c = .mk f as) ∨ (∃ a k, c = .isi a k) ∨ (∃ b as, c = .bi b as) ∨ ∃ f a as, c = .fno f a as := by
  cases n with
  | zero => simp [compCall] at h
  | succ n =>
    unfold compCall at h
    split at h
    · split at h
      · cases h
      split at h
      · split at h
        · cases h
        · obtain ⟨a', ha, z⟩ := Option.bind_eq_some_iff.mp h
          obtain ⟨cs, hcs, z⟩ := Option.map_eq_some_iff.mp z
          exact .inr (.inr (.inr (.inr ⟨_, _, _, z.symm⟩)))
      · obtain ⟨cs, hcs, z⟩ := Option.map_eq_some_iff.mp h; exact .inl ⟨_, _, z.symm⟩
    · split at h
      · split at h
        · cases h
        · obtain ⟨cs, hcs, z⟩ := Option.map_eq_some_iff.mp h; exact .inr (.inl ⟨_, _, z.symm⟩)
      · split at h
        · split at h
          · split at h
            · obtain ⟨a', ha, z⟩ := Option.bind_eq_some_iff.mp h
              split at z
              · cases z; exact .inr (.inr (.inl ⟨_, _, rfl⟩))
              · split at z
                · cases z; exact .inr (.inr (.inl ⟨_, _, rfl⟩))
                · split at z
                  · cases z; exact .inr (.inr (.inl ⟨_, _, rfl⟩))
                  · cases z
            · cases h
          · cases h
        · split at h
          · cases h
          · split at h
            · cases h
            split at h
            · obtain ⟨cs, hcs, z⟩ := Option.map_eq_some_iff.mp h
              exact .inr (.inr (.inr (.inl ⟨_, _, z.symm⟩)))
            obtain ⟨b, hb, z⟩ := Option.bind_eq_some_iff.mp h
            obtain ⟨cs, hcs, z⟩ := Option.map_eq_some_iff.mp z
            exact .inr (.inr (.inr (.inl ⟨_, _, z.symm⟩)))
theorem compMeth_kind {n : Nat} {o : Expr} {m : Str} {args : List Expr} {c : C} (h : compMeth n Γ o m args = some c) : evT Φ c = fun _ => .stuck := by
  cases n with
  | zero => simp [compMeth] at h
  | succ n =>
    unfold compMeth at h
    split at h
    · split at h
      · cases h
      obtain ⟨_, _, z⟩ := Option.bind_eq_some_iff.mp h; obtain ⟨_, _, z⟩ := Option.map_eq_some_iff.mp z; subst z; simp only [evT]
    · split at h
      · obtain ⟨_, _, z⟩ := Option.bind_eq_some_iff.mp h; obtain ⟨_, _, z⟩ := Option.map_eq_some_iff.mp z; subst z; simp only [evT]
      · split at h
        · split at h
          · obtain ⟨_, _, z⟩ := Option.bind_eq_some_iff.mp h; obtain ⟨_, _, z⟩ := Option.map_eq_some_iff.mp z; subst z; simp only [evT]
          · cases h
        split at h
        · cases h
        · obtain ⟨_, _, z⟩ := Option.bind_eq_some_iff.mp h; obtain ⟨_, _, z⟩ := Option.bind_eq_some_iff.mp z; obtain ⟨_, _, z⟩ := Option.map_eq_some_iff.mp z; subst z; simp only [evT]
theorem look_some {K : PySem.W.Frag} {mg : Str → Option Value} {H : Hp} {D : Addr → Prop} {m : Str} {r : T} : ∀ {fn : List Str} {fv : List T} {vs : List V}, fn.length = vs.length → RepL K mg H D fv vs → look m fn fv = some r → ∃ v, (fn.zip vs).lookup m = some v ∧ Rep K mg H D r v
  | [], _, _, _, _, e => by cases e
  | n :: ns, [], [], h, _, _ => by cases h
  | n :: ns, t :: ts, v :: vs, h, .cons r l, e => by
    unfold look at e
    split at e
    · rename_i hn
      cases e
      refine ⟨v, ?_, r⟩
      show (match m == n with | true => some v | false => (ns.zip vs).lookup m) = some v
      rw [beq_iff_eq.mpr hn]
    · rename_i hne
      have h' : ns.length = vs.length := by simpa using h
      obtain ⟨w, hw, rw'⟩ := look_some h' l e
      refine ⟨w, ?_, rw'⟩
      show (match m == n with | true => some v | false => (ns.zip vs).lookup m) = some w
      rw [beq_eq_false_iff_ne.mpr hne]
      exact hw
theorem fld_imp {σ : L2.St} {H : Hp} {Q : VK} {f : Str} {m : M Opnd} (kn : ∀ c f C, Φ.kn c f = true → X.mg c = some (.ref C) → Cls X.K C ∧ NoAttr X.K C f)
    (hex : ∀ x fs, Φ.ex x = some fs → ∃ C : Addr, X.mg x = some (.ref C) ∧ XcK X.K C ∧ ∀ f ∈ fs, PySem.W.findIn X.K (.ref C) f = some none)
    (h : tR X.K X.mg D0 W (OutR X.K X.mg D0) (un1 m fun t => (fldT Φ f t).map Out.val) σ H Q) : tFldX X.K (tR X.K X.mg D0 W (OpdR X.K X.mg D0) m) f σ H Q := by
  obtain ⟨env, R, q⟩ := un1_imp h
  refine ⟨env, R, ?_⟩
  revert q
  cases m env with
  | stuck => exact id
  | exc x e => exact id
  | ok o e =>
    intro q v H1 S R1 ho
    obtain ⟨D, t, d2, rp, out, e1, k⟩ := q v H1 S R1 ho
    obtain ⟨r, e2, z⟩ := Option.map_eq_some_iff.mp e1
    subst z
    unfold fldT at e2
    split at e2
    · rename_i c fn fv
      split at e2
      · rename_i hk
        rcases rp with rp | ⟨a, _, rt⟩
        · cases rp with
          | @ins _ _ _ C dx vs a hc ha hn hlen hr =>
            obtain ⟨w, hw, rw'⟩ := look_some hlen hr e2
            obtain ⟨cl, na⟩ := kn c f C hk hc
            exact .inl ⟨a, C, dx, fn.zip vs, w, rfl, ha, cl, na, hw, PureQ.val rw' k⟩
        · exact rt.elim
      · cases e2
    · rename_i c fn fv
      split at e2
      · rename_i fs hfs
        split at e2
        · rename_i hf
          obtain ⟨C, hm, xk, hno⟩ := hex c fs hfs
          rcases rp with rp | ⟨a, _, rt⟩
          · cases rp with
            | exc0 hm' ha hn => cases e2
            | @exc _ _ _ Ca a dd vs hm' ha hn hd hn2 hlen hr =>
              rw [hm] at hm'; cases hm'
              obtain ⟨w, hw, rw'⟩ := look_some hlen hr e2
              exact .inr ⟨a, C, dd, fn.zip vs, w, rfl, ha, hd, xk, hno f hf, hw, PureQ.val rw' k⟩
          · exact rt.elim
        · cases e2
      · cases e2
    · cases e2
theorem s_both (s : Snd Φ n) {e : Expr} {c : C} (ok : Ok Γ Φ X W) (h0 : compE (n + 1) Γ e = some c) : Both Φ X W D0 e c := by
  have h := h0
  unfold compE at h
  split at h
  · -- Name
    rename_i x pos
    split at h
    · rename_i i hi
      cases h
      obtain ⟨h1, h2, h3, h4⟩ := ok.slot hi
      refine both_tru ok h0 rfl ?_ ?_
      · simpa only [evE] using s_slotE h1 h2 h3 h4
      · simp only [evT]; rfl
    · split at h
      · rename_i hgo
        simp only [Bool.and_eq_true] at hgo
        obtain ⟨t, ht, z⟩ := Option.map_eq_some_iff.mp h
        subst z
        obtain ⟨u, v, hm, rv, rp⟩ := ok.mo.gl x t ht
        exact both_tru ok h0 rfl (pe_imp (pe_glob (ok.gl hgo.1) hm rv (okName_is hgo.2).1) fun σ H Q q => cst_imp rp (by simpa only [evE] using q)) (cst_tru t)
      · cases h
  · -- Constant
    rename_i k j pos
    obtain ⟨t, ht, z⟩ := Option.map_eq_some_iff.mp h
    subst z
    refine both_tru ok h0 rfl ?_ (cst_tru t)
    unfold constC at ht
    split at ht
    · cases ht; exact pe_imp pe_non fun σ H Q q => cst_imp (fun _ _ => .non) (by simpa only [evE] using q)
    · cases ht; exact pe_imp pe_bl fun σ H Q q => cst_imp (fun _ _ => .bl _) (by simpa only [evE] using q)
    · cases ht; exact pe_imp pe_int fun σ H Q q => cst_imp (fun _ _ => .int _) (by simpa only [evE] using q)
    · cases ht; exact pe_imp pe_str fun σ H Q q => cst_imp (fun _ _ => .str _) (by simpa only [evE] using q)
    · cases ht
  · -- BinOp
    rename_i a op b pos
    obtain ⟨a', ha, z⟩ := Option.bind_eq_some_iff.mp h
    obtain ⟨b', hb, z⟩ := Option.map_eq_some_iff.mp z
    subst z
    refine both_tru ok h0 rfl (pe_imp (pe_op (o_bin op) (s.o D0 ok ha) (s.o D0 ok hb)) fun σ H Q q => un2_imp (by simpa only [evE] using q)) (by simp only [evT, evE])
  · -- -a
    rename_i a pos
    obtain ⟨a', ha, z⟩ := Option.map_eq_some_iff.mp h
    subst z
    refine both_vac (pe_imp (pe_un o_neg (s.o D0 ok ha)) fun σ H Q q => ?_) (by simp only [evT])
    simp only [evE] at q
    exact un1_imp q
  · -- not a
    rename_i a pos
    obtain ⟨a', ha, z⟩ := Option.map_eq_some_iff.mp h
    subst z
    refine ⟨pe_imp (pe_not (s.o D0 ok ha)) fun σ H Q q => ?_, pt_imp (pt_not (s.t D0 ok ha)) fun σ H Q q => ?_⟩
    · simp only [evE] at q; exact not_imp q
    · simp only [evT] at q; exact tnot_imp q
  · -- and, or
    obtain ⟨b1, b2⟩ := s_bool (D0 := D0) s ok h0
    exact ⟨b1, b2.pt⟩
  · -- one comparison
    rename_i a op b pos
    split at h
    · split at h
      · rename_i hb
        obtain ⟨a', ha, z⟩ := Option.map_eq_some_iff.mp h
        subst z
        exact (s_isN s ok ha hb).1
      · cases h
    · split at h
      · rename_i hb
        obtain ⟨a', ha, z⟩ := Option.map_eq_some_iff.mp h
        subst z
        exact (s_isN s ok ha hb).2
      · cases h
    · split at h
      · rename_i i hi
        obtain ⟨a', ha, z⟩ := Option.map_eq_some_iff.mp h
        subst z
        exact (s_din s ok ha hi).1
      · split at h
        · cases h
        · obtain ⟨a', ha, z⟩ := Option.bind_eq_some_iff.mp h
          obtain ⟨b', hb, z⟩ := Option.map_eq_some_iff.mp z
          subst z
          exact s_cmp1 s ok ha hb
    · split at h
      · rename_i i hi
        obtain ⟨a', ha, z⟩ := Option.map_eq_some_iff.mp h
        subst z
        exact (s_din s ok ha hi).2
      · split at h
        · cases h
        · obtain ⟨a', ha, z⟩ := Option.bind_eq_some_iff.mp h
          obtain ⟨b', hb, z⟩ := Option.map_eq_some_iff.mp z
          subst z
          exact s_cmp1 s ok ha hb
    · split at h
      · cases h
      · obtain ⟨a', ha, z⟩ := Option.bind_eq_some_iff.mp h
        obtain ⟨b', hb, z⟩ := Option.map_eq_some_iff.mp z
        subst z
        exact s_cmp1 s ok ha hb
  · -- a chain
    split at h
    · cases h
    · obtain ⟨a', ha, z⟩ := Option.bind_eq_some_iff.mp h
      obtain ⟨b', hb, z⟩ := Option.bind_eq_some_iff.mp z
      obtain ⟨d', hd, z⟩ := Option.map_eq_some_iff.mp z
      subst z
      exact s_chain s ok ha hb hd
  · -- a call of a name
    rename_i x p args pos
    split at h
    · rename_i hgo
      simp only [Bool.and_eq_true] at hgo
      have pe := s.call (p := p) (pos := pos) D0 ok h hgo.1 hgo.2
      rcases compCall_kind h with ⟨f, as, rfl⟩ | ⟨f, as, rfl⟩ | ⟨a, k, rfl⟩ | ⟨b, as, rfl⟩ | ⟨f, a, as, rfl⟩
      rotate_right
      · exact both_vac pe (by simp only [evT])
      · cases hF : Φ.fn f with
        | none => exact both_vac pe (by simp only [evT, hF])
        | some F => exact both_tru ok h0 rfl pe (by simp only [evT, evE, hF])
      · exact both_vac pe (by simp only [evT])
      · exact both_tru ok h0 rfl pe (by simp only [evT, evE])
      · exact both_tru ok h0 rfl pe (by simp only [evT, evE])
    · cases h
  · -- a method's call
    rename_i o m apos args cpos
    split at h
    · rename_i hgo
      simp only [Bool.and_eq_true, decide_eq_true_eq] at hgo
      exact both_vac (s.meth D0 ok h hgo.1 hgo.2) (compMeth_kind h)
    · cases h
  · -- a slice
    rename_i a lo hi st p1 p2
    split at h
    · obtain ⟨a', ha, z⟩ := Option.bind_eq_some_iff.mp h
      obtain ⟨l', hl, z⟩ := Option.bind_eq_some_iff.mp z
      obtain ⟨h', hh, z⟩ := Option.map_eq_some_iff.mp z
      subst z
      refine both_vac (pe_imp (pe_slice o_sl (s.o D0 ok ha) (s.p D0 ok hl) (s.p D0 ok hh)) fun σ H Q q => ?_) (by simp only [evT])
      simp only [evE] at q
      exact sl_imp q
    · split at h
      · split at h
        · rename_i e1 hm
          obtain ⟨a', ha, z⟩ := Option.map_eq_some_iff.mp h
          subst z
          unfold minus1 at hm
          split at hm
          · refine both_vac (pe_imp (pe_revL (s.o D0 ok ha)) fun σ H Q q => ?_) (by simp only [evT])
            simp only [evE] at q
            exact rev_imp q
          · cases hm
        · cases h
      · cases h
  · -- an index
    rename_i a b pos hns
    split at h
    · rename_i i hi
      obtain ⟨b', hb, z⟩ := Option.map_eq_some_iff.mp h
      subst z
      obtain ⟨x, p, rfl, hix⟩ := dkOf_is hi
      obtain ⟨h1, h2, h3, h4⟩ := ok.slot hix
      refine both_vac (pe_imp (pe_dget (by have := ok.hu; omega) (s_slotO (D0 := D0) (W := W) h1 h2 h3 h4) (s.o D0 ok hb) (plainIx (slice_none hb).1)) fun σ H Q q => ?_) (by simp only [evT])
      simp only [evE] at q
      exact dget_imp q
    · obtain ⟨a', ha, z⟩ := Option.bind_eq_some_iff.mp h
      obtain ⟨b', hb, z⟩ := Option.map_eq_some_iff.mp z
      subst z
      refine both_tru ok h0 rfl (pe_imp (pe_ix o_ix (s.o D0 ok ha) (s.o D0 ok hb) (plainIx (slice_none hb).1)) fun σ H Q q => ?_) (by simp only [evT, evE])
      simp only [evE] at q
      obtain ⟨env, R, q⟩ := un2_imp q
      refine ⟨env, R, ?_⟩
      revert q
      cases opnd a' (evE Φ a') env with
      | stuck => exact id
      | exc x e => exact id
      | ok o e =>
        intro q v H1 S R1 ho
        obtain ⟨env1, R1', q⟩ := q v H1 S R1 ho
        refine ⟨env1, R1', ?_⟩
        revert q
        cases opnd b' (evE Φ b') env1 with
        | stuck => exact id
        | exc x e => exact id
        | ok o e =>
          intro q w H2 S2 R2 hp
          obtain ⟨D, t, u, _, r1, r2, p⟩ := q w H2 S2 R2 hp
          exact ⟨D, t, u, r1, r2, p⟩
  · -- a list
    obtain ⟨cs, hcs, z⟩ := Option.map_eq_some_iff.mp h
    subst z
    refine both_vac (pe_imp (pe_lst (s.lv D0 ok hcs)) fun σ H Q q => ?_) (by simp only [evT])
    simp only [evE] at q
    exact lst_imp q
  · -- a tuple
    obtain ⟨cs, hcs, z⟩ := Option.map_eq_some_iff.mp h
    subst z
    refine both_vac (pe_imp (pe_tup (s.lv D0 ok hcs)) fun σ H Q q => ?_) (by simp only [evT])
    simp only [evE] at q
    exact tup_imp q
  · -- a field
    rename_i x p f pos
    obtain ⟨i, hi, z⟩ := Option.map_eq_some_iff.mp h
    subst z
    obtain ⟨h1, h2, h3, h4⟩ := ok.slot hi
    refine both_vac (pe_imp (pe_fldX (s_slotO (D0 := D0) (W := W) h1 h2 h3 h4) rfl) fun σ H Q q => ?_) (by simp only [evT])
    simp only [evE] at q
    exact fld_imp ok.mo.kn (fun x fs h => let ⟨C, _, h1, h2, _, h3, _⟩ := ok.mo.ex x fs h; ⟨C, h1, h2, h3⟩) q
  · -- {}
    cases h
    cases htk : Γ.tk with
    | true =>
      refine both_vac (pe_imp pe_dnewT fun σ H Q q => ?_) (by simp only [evT])
      simp only [evE, if_true] at q
      exact new_imp q fun D p => ⟨[], upd_same, .nil, .nil⟩
    | false =>
      refine both_vac (pe_imp pe_dnewK fun σ H Q q => ?_) (by simp only [evT])
      simp only [evE, Bool.false_eq_true, if_false] at q
      exact new_imp q fun D p => ⟨[], upd_same, .nil, .nil⟩
  · -- {x: []}
    rename_i x p posl pos
    obtain ⟨i, hi, z⟩ := Option.map_eq_some_iff.mp h
    subst z
    obtain ⟨h1, h2, h3, h4⟩ := ok.slot hi
    refine both_vac (pe_imp (pe_disp (pps_cons (pe_var (i := i) h1 h2 h3 h4) (pe_lst pa_nil) pps_nil) rfl rfl (by simp) (Nat.le_of_ble_eq_true rfl)) fun σ H Q q => ?_) (by simp only [evT])
    simp only [evE] at q
    exact dicE_imp q
  · -- a comprehension
    obtain ⟨⟨c', it, g, k, own⟩, hc, z⟩ := Option.map_eq_some_iff.mp h
    subst z
    exact both_vac (s.lc D0 ok hc) (by simp only [evT])
  · cases h
theorem snd_succ (s : Snd Φ n) : Snd Φ (n + 1) where
  e := by intro Γ X W D0 e c ok h; exact (s_both s ok h).1
  t := by intro Γ X W D0 e c ok h; exact (s_both s ok h).2
  w := by intro Γ X W D0 op es pos c ok h; exact (s_bool s ok h).2
  lo := by intro Γ X W D0 es cs ok h; exact s_lo s ok h
  lv := by intro Γ X W D0 es cs ok h; exact s_lv s ok h
  la := by intro Γ X W D0 pk es cs ok h; exact s_la s pk ok h
  p := by intro Γ X W D0 e c ok h; exact s_p s ok h
  i := by intro Γ X W D0 tg e it ok h; exact s_i s ok h
  g := by intro Γ X W D0 e g ok h; exact s_g s ok h
  gs := by intro Γ X W D0 es gs ok h; exact s_gs s ok h
  call := by intro Γ X W D0 x args p pos c ok h h1 h2; exact s_call s ok h h1 h2
  meth := by intro Γ X W D0 o m args apos cpos c ok h h1 h2; exact s_meth s ok h h1 h2
  lc := by intro Γ X W D0 elt tg iter ifs scope pos c it g k own ok h; exact s_lc s ok h
  cif := by intro Γ X ifs k ok h; exact s_cif s ok h
theorem snd : ∀ n, Snd Φ n
  | 0 => snd_zero
  | n + 1 => snd_succ (snd n)
end
end VL

set_option maxHeartbeats 4000000
namespace VL
open PySem PySem.Spec PyProof.Rows L2

/-! ### statements -/
section
variable (K : PySem.W.Frag) (mg : Str → Option Value)
def RetR (D0 : Addr → Prop) (o : Out) (v : V) (H : Hp) (env : En) (σ : L2.St) (env' : En) (σ' : L2.St) (H' : Hp) : Prop := match o with
  | .val t => Rep K mg H' (Dof D0 env' σ') t v
  | .own t => ∃ a : Addr, v = .ref a ∧ (ownA env σ a ∨ H a = none) ∧ SR K mg (orA D0 a) H' env' σ' ∧ RepTop K mg H' (Dof (orA D0 a) env' σ') t a
def FwQ (D0 : Addr → Prop) (D : Ends) (env : En) (σ : L2.St) (H : Hp) (env' : En) (σ' : L2.St) (H' : Hp) : Fw → Prop
  | .next => D.nx σ' H'
  | .brk => D.bk σ' H'
  | .ret o => ∀ v, RetR K mg D0 o v H env σ env' σ' H' → D.rt v H'
def PF (D0 : Addr → Prop) (W : WX) (D : Ends) (env : En) (σ : L2.St) (H : Hp) : Res Fw → Prop
  | .ok f env' => ∀ σ' H', Step env σ H env' σ' H' → SR K mg D0 H' env' σ' → FwQ K mg D0 D env σ H env' σ' H' f
  | .exc x env' => XPostS K mg D0 W env σ H x env'
  | .stuck => False
def tS (D0 : Addr → Prop) (W : WX) (m : M Fw) : TS := fun D σ H => ∃ env, SR K mg D0 H env σ ∧ PF K mg D0 W D env σ H (m env)
end
section
variable {K : PySem.W.Frag} {mg : Str → Option Value} {H0 H H1 H2 H' : Hp} {D0 : Addr → Prop} {env env1 env2 env' : En} {σ σ1 σ2 σ' : L2.St} {W : WX} {D : Ends}
theorem RetR.back {o : Out} {v : V} (S : Step env σ H env1 σ1 H1) (h : RetR K mg D0 o v H1 env1 σ1 env' σ' H') : RetR K mg D0 o v H env σ env' σ' H' := by
  cases o with
  | val t => exact h
  | own t =>
    obtain ⟨a, e, q, r⟩ := h
    exact ⟨a, e, q.elim (S.own a) fun z => .inr (none_of S.dom z), r⟩
theorem RetR.unlock {o : Out} {v : V} {L : List Nat} (h : RetR K mg D0 o v H env σ env' σ' H') : RetR K mg D0 o v H env σ (VL.unlock env' L) σ' H' := by
  cases o with
  | val t => exact h.mono (fun _ _ h _ => h) fun a z => .inl (dof_unlock.mp z)
  | own t =>
    obtain ⟨a, e, q, R, r⟩ := h
    exact ⟨a, e, q, unlock_sr L R, r.mono (fun _ _ h _ => h) (fun a z => .inl (dof_unlock.mp z)) rfl⟩
theorem PF.back {r : Res Fw} (S : Step env σ H env1 σ1 H1) (h : PF K mg D0 W D env σ H r) : PF K mg D0 W D env1 σ1 H1 r := by
  cases r with
  | stuck => exact h
  | exc x e => exact XPostS.back S h
  | ok f e =>
    intro σ' H' S' R'
    have q := h σ' H' (S.trans S') R'
    cases f with
    | next => exact q
    | brk => exact q
    | ret o => exact fun v r => q v (r.back S)
theorem OutR.ret {o : Out} {v : V} (h : OutR K mg D0 o v H env' σ H') : RetR K mg D0 o v H env σ env' σ H' := by
  cases o with
  | val t => exact h
  | own t => obtain ⟨a, e, hn, R, r⟩ := h; exact ⟨a, e, .inr hn, R, r⟩
theorem seq_imp {m : M Fw} {k : M Fw} (h : tS K mg D0 W (fun env => (m env).bind fun f env1 => match f with
      | .next => k env1
      | f => .ok f env1) D σ H) : tSeq (tS K mg D0 W m) (tS K mg D0 W k) D σ H := by
  obtain ⟨env, R, h⟩ := h
  refine ⟨env, R, ?_⟩
  cases e : m env with
  | stuck => simp only [e, bind_stuck] at h; exact h
  | exc x env1 => simp only [e, bind_exc] at h; exact h
  | ok f env1 =>
    simp only [e, bind_ok] at h
    intro σ1 H1 S R1
    cases f with
    | next => exact ⟨env1, R1, PF.back S h⟩
    | brk => exact h σ1 H1 S R1
    | ret o => exact h σ1 H1 S R1
theorem drop_imp {m : M Out} (h : tS K mg D0 W (fun env => (m env).bind fun _ env1 => .ok .next env1) D σ H) : tDrop (tR K mg D0 W (OutR K mg D0) m) D σ H := by
  obtain ⟨env, R, h⟩ := h
  refine ⟨env, R, ?_⟩
  cases e : m env with
  | stuck => simp only [e, bind_stuck] at h; exact h
  | exc x env1 => simp only [e, bind_exc] at h; exact XPostS.expr h
  | ok o env1 =>
    simp only [e, bind_ok] at h
    intro v H1 S R1 _
    exact h σ H1 S R1
theorem if_imp {c : M Bool} {a b : M Fw} (h : tS K mg D0 W (fun env => (c env).bind fun k env1 => if k then a env1 else b env1) D σ H) : tIfS (tB K mg D0 W c) (tS K mg D0 W a) (tS K mg D0 W b) D σ H := by
  obtain ⟨env, R, h⟩ := h
  refine ⟨env, R, ?_⟩
  cases e : c env with
  | stuck => simp only [e, bind_stuck] at h; exact h
  | exc x env1 => simp only [e, bind_exc] at h; exact XPostS.expr h
  | ok k env1 =>
    simp only [e, bind_ok] at h
    intro H1 S R1
    cases k with
    | true => rw [if_pos rfl] at h ⊢; exact ⟨env1, R1, PF.back S h⟩
    | false => rw [if_neg Bool.false_ne_true] at h ⊢; exact ⟨env1, R1, PF.back S h⟩
theorem step_own {i : Nat} {s : Slot} {t : T} {a : Addr} (S : Step env σ H env1 σ1 H1) (e : env1[i]? = some s) (fs : freeS s = true) (hn : H a = none) : Step env σ H (env1.set i (some (.own, t))) (σ1.set i (some (.ref a))) H1 := by
  have own : ∀ {j : Nat} {b : Addr}, (σ1.set i (some (V.ref a)))[j]? = some (some (.ref b)) → j = i → b = a := fun {j b} s z => by
    subst z
    rcases set_cases s with ⟨_, q, _⟩ | ⟨q, _⟩
    · cases q; rfl
    · exact absurd rfl q
  refine ⟨S.keep, fun b h => ?_, fun b h => ?_, fun j f u ej hf => ?_, S.dom, fun b h => ?_⟩
  · obtain ⟨j, f, u, ej, hf, sj⟩ := h
    rcases set_cases ej with ⟨z, _, _⟩ | ⟨hne, ej⟩
    · rw [own sj z]; exact .inr hn
    · exact S.own b ⟨j, f, u, ej, hf, by rwa [List.getElem?_set_ne (Ne.symm hne)] at sj⟩
  · obtain ⟨j, f, u, ej, hf, sj⟩ := h
    rcases set_cases ej with ⟨z, _, _⟩ | ⟨hne, ej⟩
    · rw [own sj z]; exact .inr hn
    · exact S.mu b ⟨j, f, u, ej, hf, by rwa [List.getElem?_set_ne (Ne.symm hne)] at sj⟩
  · obtain ⟨q, t', e'⟩ := S.par j f u ej hf
    have hne : j ≠ i := fun z => by
      subst z
      rw [e] at e'; cases e'
      rcases hf with z | z | z <;> subst z <;> cases fs
    exact ⟨by rw [List.getElem?_set_ne (Ne.symm hne)]; exact q, t', by rw [List.getElem?_set_ne (Ne.symm hne)]; exact e'⟩
  · obtain ⟨j, f, u, ej, hf, sj⟩ := h
    rcases set_cases ej with ⟨z, z', _⟩ | ⟨hne, ej⟩
    · cases z'; rcases hf with z | z <;> cases z
    · exact S.back b ⟨j, f, u, ej, hf, by rwa [List.getElem?_set_ne (Ne.symm hne)] at sj⟩
/-- name = .. -/
theorem put_ok {i : Nat} {o : Out} {v : V} {s : Slot} (R : SR K mg D0 H env σ) (S : Step env σ H env1 σ H1) (R1 : SR K mg D0 H1 env1 σ) (ho : OutR K mg D0 o v H env1 σ H1) (e : env1[i]? = some s) (fs : freeS s = true) :
    Step env σ H (env1.set i (outS o)) (σ.set i (some v)) H1 ∧ SR K mg D0 H1 (env1.set i (outS o)) (σ.set i (some v)) := by
  cases o with
  | val t => exact ⟨S.trans (step_set e fs fun f u z => by cases z; rfl), R1.setSh ho⟩
  | own t =>
    obtain ⟨a, rfl, hn, Rx, rt⟩ := ho
    have nD : ¬ D0 a := fun z => R.dom a z hn
    refine ⟨step_own S e fs hn, Rx.setOwn nD (fun ⟨j, f, u, ej, hf, sj⟩ => ?_) rt (get_lt e) fun j f u ej hf => .inr fun sj => ?_⟩
    · obtain ⟨b, sb, _, c1, _⟩ := Rx.top j f u ej (by rcases hf with rfl | rfl <;> decide)
      rw [sj] at sb; cases sb
      exact c1 hf (.inr rfl)
    · obtain ⟨k, g, w, ek, hg, sk⟩ := S.back a ⟨j, f, u, ej, hf, sj⟩
      obtain ⟨b, sb, _, _, c2⟩ := R.top k g w ek (by rcases hg with rfl | rfl <;> decide)
      rw [sk] at sb; cases sb
      exact nD (c2 hg)
theorem asg_imp {i : Nat} {m : M Out} (h : tS K mg D0 W (fun env => (m env).bind fun o env1 => (setName i o env1).bind fun _ env2 => .ok .next env2) D σ H) : tAsg (tR K mg D0 W (OutR K mg D0) m) (gName i) D σ H := by
  obtain ⟨env, R, h⟩ := h
  refine ⟨env, R, ?_⟩
  cases e : m env with
  | stuck => simp only [e, bind_stuck] at h; exact h
  | exc x env1 => simp only [e, bind_exc] at h; exact XPostS.expr h
  | ok o env1 =>
    simp only [e, bind_ok] at h
    intro v H1 S R1 ho
    have hr : setName i o env1 ≠ .stuck := fun z => by rw [z] at h; exact h
    obtain ⟨s, es, fs, er⟩ := setName_is hr
    rw [er] at h
    obtain ⟨p1, p2⟩ := put_ok R S R1 ho es fs
    exact h _ H1 p1 p2
theorem asgG_imp {f : T → M Unit} {m : M Out} {sl : List Nat} (h : tS K mg D0 W (fun env => (m env).bind fun o env1 => (f o.t env1).bind fun _ env2 => .ok .next env2) D σ H) : tAsg (tR K mg D0 W (OutR K mg D0) m) (tG K mg D0 W sl f) D σ H := by
  obtain ⟨env, R, h⟩ := h
  refine ⟨env, R, ?_⟩
  cases e : m env with
  | stuck => simp only [e, bind_stuck] at h; exact h
  | exc x env1 => simp only [e, bind_exc] at h; exact XPostS.expr h
  | ok o env1 =>
    simp only [e, bind_ok] at h
    intro v H1 S R1 ho
    refine ⟨env1, o.t, R1, ho.rep R.dom, ?_⟩
    cases e2 : f o.t env1 with
    | stuck => simp only [e2, bind_stuck] at h; exact h
    | exc x env2 => simp only [e2, bind_exc] at h; exact XPostS.back S h
    | ok u env2 =>
      simp only [e2, bind_ok] at h
      intro σ2 H2 S2 R2 _
      exact h σ2 H2 (S.trans S2) R2
theorem par_imp {i j : Nat} {m : M (List T)} (h : tS K mg D0 W (fun env => (m env).bind fun ts env1 => match ts with
    | [t, u] => if i = j then .stuck else (setName i (.val t) env1).bind fun _ env2 => (setName j (.val u) env2).bind fun _ env3 => .ok .next env3
    | _ => .stuck) D σ H) : tPar i j (tA K mg D0 W (ValsR K mg D0) m) D σ H := by
  obtain ⟨env, R, h⟩ := h
  refine ⟨env, R, ?_⟩
  cases e : m env with
  | stuck => simp only [e, bind_stuck] at h; exact h
  | exc x env1 => simp only [e, bind_exc] at h; exact XPostS.expr h
  | ok ts env1 =>
    simp only [e, bind_ok] at h
    intro vs H1 S R1 hv
    replace hv : RepL K mg H1 (Dof D0 env1 σ) ts vs := hv
    split at h
    · rename_i t u
      split at h
      · exact h.elim
      · cases hv with
        | @cons _ v1 _ _ r1 l =>
          cases l with
          | @cons _ v2 _ _ r2 l =>
            cases l
            have hr : setName i (.val t) env1 ≠ .stuck := fun z => by rw [z] at h; exact h
            obtain ⟨s, es, fs, er⟩ := setName_is hr
            rw [er] at h
            simp only [bind_ok] at h
            obtain ⟨p1, p2⟩ := put_ok (v := _) R S R1 (show OutR K mg D0 (.val t) _ H env1 σ H1 from r1) es fs
            have hr2 : setName j (.val u) (env1.set i (outS (.val t))) ≠ .stuck := fun z => by rw [z] at h; exact h
            obtain ⟨s2, es2, fs2, er2⟩ := setName_is hr2
            rw [er2] at h
            simp only [bind_ok] at h
            have r2' := Step.rep R1 (step_set (σ := σ) (H := H1) (s' := outS (.val t)) (v := some v1) es fs fun f u z => by cases z; rfl) r2
            exact ⟨_, _, rfl, h _ H1 (p1.trans (step_set es2 fs2 fun f u z => by cases z; rfl)) (p2.setSh r2')⟩
    · exact h.elim
theorem ret_imp {m : M Out} (h : tS K mg D0 W (fun env => (m env).bind fun o env1 => .ok (.ret o) env1) D σ H) : tRet (tR K mg D0 W (OutR K mg D0) m) D σ H := by
  obtain ⟨env, R, h⟩ := h
  refine ⟨env, R, ?_⟩
  cases e : m env with
  | stuck => simp only [e, bind_stuck] at h; exact h
  | exc x env1 => simp only [e, bind_exc] at h; exact XPostS.expr h
  | ok o env1 =>
    simp only [e, bind_ok] at h
    intro v H1 S R1 ho
    exact h σ H1 S R1 v ho.ret
theorem retOwn {i : Nat} {t : T} (R : SR K mg D0 H env σ) (ei : env[i]? = some (some (.own, t))) : ∃ a : Addr, σ[i]? = some (some (.ref a)) ∧ SR K mg (orA D0 a) H (env.set i none) σ ∧ RepTop K mg H (Dof (orA D0 a) (env.set i none) σ) t a := by
  obtain ⟨a, sa, rt, c1, _⟩ := R.top i _ t ei (by decide)
  have hD : ∀ b, Dof (orA D0 a) (env.set i none) σ b → Dof D0 env σ b := fun b h => by
    rcases h with (h | h) | ⟨j, f, u, ej, hf, sj⟩
    · exact .inl h
    · exact .inr ⟨i, _, t, ei, .inl rfl, by rw [h]; exact sa⟩
    · rcases set_cases ej with ⟨_, z, _⟩ | ⟨_, ej⟩
      · cases z
      · exact .inr ⟨j, f, u, ej, hf, sj⟩
  have back : ∀ {j : Nat} {f : Fl} {u : T}, (env.set i none)[j]? = some (some (f, u)) → j ≠ i ∧ env[j]? = some (some (f, u)) := fun {j f u} ej => by
    rcases set_cases ej with ⟨_, z, _⟩ | ⟨hne, ej⟩
    · cases z
    · exact ⟨hne, ej⟩
  refine ⟨a, sa, R.to (by simp [R.len]) (fun _ _ h _ => h) (fun b h => .inl (hD b h)) (fun j u e => .inl ⟨(back e).2, rfl⟩) (fun j f u e hf => .inl ⟨f, (back e).2, hf, rfl, fun _ _ => rfl⟩) (fun j f u b e hf s => ?_)
    (fun j k f g u w b e1 e2 h1 h2 s1 s2 => R.inj j k f g u w b (back e1).2 (back e2).2 h1 h2 s1 s2) (fun b h => ?_), rt.mono (fun _ _ h _ => h) (fun b h => .inl (hD b h)) rfl⟩
  · obtain ⟨hne, e0⟩ := back e
    obtain ⟨c, sc, _, d1, d2⟩ := R.top j f u e0 hf
    rw [s] at sc; cases sc
    refine ⟨fun q z => z.elim (d1 q) fun z => ?_, fun q => .inl (d2 q)⟩
    subst z
    exact hne (R.inj j i f _ u t b e0 ei hf (by decide) s sa)
  · rcases h with h | h
    · exact R.dom b h
    · obtain ⟨o, ho⟩ := rt.there
      rw [h, ho]; exact fun z => nomatch z
theorem step_drop {i : Nat} {t : T} (ei : env[i]? = some (some (.own, t))) : Step env σ H (env.set i none) σ H := by
  have back : ∀ {j : Nat} {f : Fl} {u : T}, (env.set i none)[j]? = some (some (f, u)) → env[j]? = some (some (f, u)) := fun {j f u} ej => by
    rcases set_cases ej with ⟨_, z, _⟩ | ⟨hne, ej⟩
    · cases z
    · exact ej
  refine ⟨fun _ _ h _ => h, fun b ⟨j, f, u, ej, hf, sj⟩ => .inl ⟨j, f, u, back ej, hf, sj⟩, fun b ⟨j, f, u, ej, hf, sj⟩ => .inl ⟨j, f, u, back ej, hf, sj⟩, fun j f u ej hf => ⟨rfl, u, ?_⟩, fun _ h => h, fun b ⟨j, f, u, ej, hf, sj⟩ => ⟨j, f, u, back ej, hf, sj⟩⟩
  have hne : j ≠ i := fun z => by
    subst z
    rw [ei] at ej; cases ej
    rcases hf with z | z | z <;> cases z
  rw [List.getElem?_set_ne (Ne.symm hne)]; exact ej
theorem retS_imp {i : Nat} (h : tS K mg D0 W (fun env => match env[i]? with
    | some (some (.sh, t)) => .ok (.ret (.val t)) env
    | some (some (.own, t)) => .ok (.ret (.own t)) (env.set i none)
    | _ => .stuck) D σ H) : tRet (tVar i) D σ H := by
  obtain ⟨env, R, h⟩ := h
  dsimp only at h
  split at h
  · rename_i t e
    obtain ⟨v, sv, r⟩ := R.sh i t e
    exact ⟨v, sv, h σ H Step.refl R v r⟩
  · rename_i t e
    obtain ⟨a, sa, R', rt⟩ := retOwn R e
    exact ⟨_, sa, h σ H (step_drop e) (R.dropE i) _ ⟨a, rfl, .inl ⟨i, _, t, e, .inl rfl, sa⟩, R', rt⟩⟩
  · exact h.elim
theorem step_dropF {i : Nat} {s : Slot} (ei : env[i]? = some s) (fs : freeS s = true) : Step env σ H (env.set i none) σ H := by
  have back : ∀ {j : Nat} {f : Fl} {u : T}, (env.set i none)[j]? = some (some (f, u)) → env[j]? = some (some (f, u)) := fun {j f u} ej => by
    rcases set_cases ej with ⟨_, z, _⟩ | ⟨hne, ej⟩
    · cases z
    · exact ej
  refine ⟨fun _ _ h _ => h, fun b ⟨j, f, u, ej, hf, sj⟩ => .inl ⟨j, f, u, back ej, hf, sj⟩, fun b ⟨j, f, u, ej, hf, sj⟩ => .inl ⟨j, f, u, back ej, hf, sj⟩, fun j f u ej hf => ⟨rfl, u, ?_⟩, fun _ h => h, fun b ⟨j, f, u, ej, hf, sj⟩ => ⟨j, f, u, back ej, hf, sj⟩⟩
  have hne : j ≠ i := fun z => by
    subst z
    rw [ei] at ej; cases ej
    rcases hf with z | z | z <;> subst z <;> cases fs
  rw [List.getElem?_set_ne (Ne.symm hne)]; exact ej
theorem wipeF_get : ∀ {ws : List Nat} {env : En} {j : Nat} {s : Slot}, (wipeE env ws)[j]? = some s → s = none ∨ env[j]? = some s
  | [], env, j, s, h => .inr h
  | i :: is, env, j, s, h => by
    unfold wipeE at h
    rcases set_cases h with ⟨_, z, _⟩ | ⟨_, h⟩
    · exact .inl z
    · exact wipeF_get h
theorem wipe_step : ∀ {ws : List Nat}, (ws.all fun i => freeS (env.getD i none)) = true → Step env σ H (wipeE env ws) σ H ∧ (SR K mg D0 H env σ → SR K mg D0 H (wipeE env ws) σ)
  | [], _ => ⟨Step.refl, id⟩
  | i :: is, h => by
    rw [List.all_cons, Bool.and_eq_true] at h
    obtain ⟨h1, h2⟩ := wipe_step (ws := is) h.2
    unfold wipeE
    refine ⟨h1.trans ?_, fun R => (h2 R).dropE i⟩
    by_cases hi : i < (wipeE env is).length
    · have e : (wipeE env is)[i]? = some (wipeE env is)[i] := by simp [hi]
      refine step_dropF e ?_
      rcases wipeF_get e with z | z
      · rw [z]; rfl
      · have := h.1
        rw [List.getD_eq_getElem?_getD, z] at this
        exact this
    · rw [List.set_eq_of_length_le (by omega)]
      exact Step.refl
theorem wipeF_ok {ws : List Nat} {r : Unit → M Fw} {P : Res Fw → Prop} (hs : ¬ P .stuck) (h : P ((wipeF ws env).bind r)) : (Step env σ H (wipeE env ws) σ H ∧ (SR K mg D0 H env σ → SR K mg D0 H (wipeE env ws) σ)) ∧ P (r () (wipeE env ws)) := by
  unfold wipeF at h
  split at h
  · rename_i e; exact ⟨wipe_step e, h⟩
  · exact absurd h hs
theorem while_imp {c : M Bool} {b : M Fw} {ws : List Nat} (h : tS K mg D0 W (whileL ws c b) D σ H) : tWhile (tB K mg D0 W c) (tS K mg D0 W b) D σ H := by
  obtain ⟨env, R, h⟩ := h
  unfold whileL at h
  split at h
  · rename_i hn
    refine ⟨fun m σ H => ∃ e, SR K mg D0 H e σ ∧ PF K mg D0 W D e σ H (whileN ws c b m e), ⟨_, env, R, h⟩, ?_⟩
    rintro m σ1 H1 ⟨e0, R0, h1⟩
    cases m with
    | zero => exact h1.elim
    | succ m =>
      simp only [whileN] at h1
      obtain ⟨⟨S0, rr⟩, h1⟩ := wipeF_ok (K := K) (mg := mg) (D0 := D0) (σ := σ1) (H := H1) (P := PF K mg D0 W D e0 σ1 H1) (fun z => z) h1
      have R1 := rr R0
      have h1 := PF.back S0 h1
      generalize wipeE e0 ws = e at h1 R1
      refine ⟨e, R1, ?_⟩
      cases ec : c e with
      | stuck => simp only [ec, bind_stuck] at h1; exact h1
      | exc x e1 => simp only [ec, bind_exc] at h1; exact XPostS.expr h1
      | ok k e1 =>
        simp only [ec, bind_ok] at h1
        intro H2 S2 R2
        cases k with
        | false => rw [if_neg Bool.false_ne_true] at h1 ⊢; exact h1 σ1 H2 S2 R2
        | true =>
          rw [if_pos rfl] at h1 ⊢
          refine ⟨fun σ' H' => ∃ e, SR K mg D0 H' e σ' ∧ PF K mg D0 W D e σ' H' (whileN ws c b m e), fun σ' H' q => ⟨m, Nat.lt_succ_self m, q⟩, e1, R2, ?_⟩
          cases eb : b e1 with
          | stuck => simp only [eb, bind_stuck] at h1; exact h1
          | exc x e2 => simp only [eb, bind_exc] at h1; exact XPostS.back S2 h1
          | ok f e2 =>
            simp only [eb, bind_ok] at h1
            intro σ3 H3 S3 R3
            cases f with
            | next => exact ⟨e2, R3, PF.back (S2.trans S3) h1⟩
            | brk =>
              obtain ⟨⟨S4, rr4⟩, h4⟩ := wipeF_ok (K := K) (mg := mg) (D0 := D0) (σ := σ3) (H := H3) (P := PF K mg D0 W D e2 σ3 H3) (fun z => z) (PF.back (S2.trans S3) h1)
              exact h4 σ3 H3 S4 (rr4 R3)
            | ret o => exact fun v r => h1 σ3 H3 (S2.trans S3) R3 v (r.back S2)
  · exact h.elim
theorem for_imp {it : M (List T × List Nat)} {asg : T → M Unit} {b : M Fw} {sl ws : List Nat} (h : tS K mg D0 W (fun env => (it env).bind fun w env1 => (forL ws asg b w.1 (lock env1 w.2)).bind fun f env2 => .ok f (unlock env2 w.2)) D σ H) :
    tFor (tI K mg D0 W it) (tG K mg D0 W sl asg) (tS K mg D0 W b) D σ H := by
  obtain ⟨env, R, h⟩ := h
  refine ⟨env, R, ?_⟩
  cases e : it env with
  | stuck => simp only [e, bind_stuck] at h; exact h
  | exc x env1 => simp only [e, bind_exc] at h; exact XPostS.expr h
  | ok w env1 =>
    obtain ⟨ts, L⟩ := w
    simp only [e, bind_ok] at h
    intro J H1 S R1 lk wk
    obtain ⟨G, Y, wlk, hg, hy⟩ := wk
    have RL : SR K mg D0 H1 (lock env1 L) σ := lock_sr L R1
    have S1 : Step env σ H (lock env1 L) σ H1 := S.trans step_lock
    let Pv : Nat → L2.St → Hp → Prop := fun i σ' H' => ∃ e, Step (lock env1 L) σ H1 e σ' H' ∧ SR K mg D0 H' e σ' ∧ PF K mg D0 W D env σ H ((forL ws asg b (ts.drop i) e).bind fun f e2 => .ok f (unlock e2 L))
    refine for_it wlk Pv ⟨lock env1 L, Step.refl, RL, h⟩ (fun i σ' H' _ ⟨e, S', _⟩ => hg H' S'.keep) ?_ ?_
    · rintro i x σ1 H2 H3 hi ⟨e0, S0, R0, hf⟩ y
      obtain ⟨t, ht⟩ : ∃ t, ts[i]? = some t := ⟨ts[i], by simp [hi]⟩
      have hd : ts.drop i = t :: ts.drop (i + 1) := by
        rw [List.drop_eq_getElem_cons hi]
        rw [List.getElem?_eq_getElem hi] at ht
        cases ht; rfl
      rw [hd] at hf
      simp only [forL] at hf
      obtain ⟨⟨Sw, rr⟩, hf⟩ := wipeF_ok (K := K) (mg := mg) (D0 := D0) (σ := σ1) (H := H2) (P := fun r => PF K mg D0 W D env σ H (r.bind fun f e2 => .ok f (unlock e2 L))) (fun z => z) hf
      have S' := S0.trans Sw
      have R' := rr R0
      generalize wipeE e0 ws = e at hf S' R'
      obtain ⟨s2, rx⟩ := hy i t H2 x H3 (Dof D0 e σ1) ht (fun a o ha n => S'.keep a o ha fun z => n (mut_dof R1 z)) (fun a z => (S'.d a z).imp dof_lock.mp id) R'.d2 y
      have Sg := S'.trans (Step.grow s2)
      have Sf := S1.trans Sg
      refine ⟨e, t, R'.same s2, rx, ?_⟩
      cases ea : asg t e with
      | stuck => simp only [ea, bind_stuck] at hf; exact hf
      | exc x e1 => simp only [ea, bind_exc] at hf; exact XPostS.back Sf hf
      | ok u e1 =>
        simp only [ea, bind_ok] at hf
        intro σ2 H4 S2 R2 _
        refine ⟨e1, R2, ?_⟩
        cases eb : b e1 with
        | stuck => simp only [eb, bind_stuck] at hf; exact hf
        | exc x e2 => simp only [eb, bind_exc] at hf; exact XPostS.back (Sf.trans S2) hf
        | ok f e2 =>
          simp only [eb, bind_ok] at hf
          intro σ3 H5 S3 R3
          have Sa := (Sg.trans S2).trans S3
          have Su := S.trans (step_unlock lk Sa)
          cases f with
          | next => exact ⟨e2, Sa, R3, hf⟩
          | brk =>
            obtain ⟨⟨S4, rr4⟩, h4⟩ := wipeF_ok (K := K) (mg := mg) (D0 := D0) (σ := σ3) (H := H5) (P := fun r => PF K mg D0 W D env σ H (r.bind fun f e2 => .ok f (unlock e2 L))) (fun z => z) hf
            simp only [bind_ok] at h4
            exact h4 σ3 H5 (S.trans (step_unlock lk (Sa.trans S4))) (unlock_sr L (rr4 R3))
          | ret o =>
            simp only [bind_ok] at hf
            exact fun v r => hf σ3 H5 Su (unlock_sr L R3) v (r.back (Sf.trans S2)).unlock
    · rintro σ1 H2 ⟨e, S', R', hf⟩
      rw [List.drop_length] at hf
      simp only [forL] at hf
      obtain ⟨⟨S4, rr4⟩, h4⟩ := wipeF_ok (K := K) (mg := mg) (D0 := D0) (σ := σ1) (H := H2) (P := fun r => PF K mg D0 W D env σ H (r.bind fun f e2 => .ok f (unlock e2 L))) (fun z => z) hf
      simp only [bind_ok] at h4
      exact h4 σ1 H2 (S.trans (step_unlock lk (S'.trans S4))) (unlock_sr L (rr4 R'))
end
end VL

set_option maxHeartbeats 4000000
namespace VL
open PySem PySem.Spec PyProof.Rows L2

/-! ### what compiles is sound: statements -/
theorem locK_is {Γ : Ct} {x : Str} (h : locK Γ x = true) : Γ.sc.names.lookup x = some .local := by
  unfold locK at h
  split at h
  · assumption
  · cases h
theorem noSwap {e : Expr} {tg : Option Expr} {l : Nat} {env : Env} (h : isLC e = false) : swapsWith e tg l env = pure false := by
  cases e <;> first | rfl | cases h
theorem isLC_of {Γ : Ct} {tg e : Expr} {env : Env} {l : Nat} (hk : env.scope.kind = .function) (hs : env.scope = Γ.sc) (h : lcOk Γ tg e = true) : swapsWith e (some tg) l env = pure false ∨ ∃ elt gs scope pos y py, e = .ListComp elt gs scope pos ∧ tg = .Name y py ∧ Γ.sc.names.lookup y = some .local ∧ (py.line == pos.line) = true ∧ (scope.names.any fun (n, k) => n == y && (k == .local || k == .cell)) = false := by
  unfold lcOk at h
  split at h
  · rename_i elt gs scope pos
    cases tg with
    | Name y py =>
      have hb : env.blockKind = .function := by unfold Env.blockKind; rw [hk]; rfl
      by_cases h1 : Γ.sc.names.lookup y = some .local
      · have ky : env.kindOf y = some .local := by
          show env.scope.names.lookup y = _
          rw [hs]; exact h1
        by_cases h2 : (py.line == pos.line) = true
        · cases h3 : scope.names.any fun (n, k) => n == y && (k == .local || k == .cell) with
          | false => exact .inr ⟨elt, gs, scope, pos, y, py, rfl, rfl, h1, h2, h3⟩
          | true =>
            left
            unfold swapsWith
            simp only [hb, ky, h3, Expr.pos, h2]
            rfl
        · left
          unfold swapsWith
          simp only [hb, ky, Expr.pos, Bool.eq_false_iff.mpr h2]
          rfl
      · left
        have ky : (env.kindOf y == some .local) = false := by
          show (env.scope.names.lookup y == some .local) = false
          rw [hs]
          cases e : Γ.sc.names.lookup y with
          | none => rfl
          | some k => cases k <;> first | rfl | exact absurd e h1
        unfold swapsWith
        simp only [hb, ky, Expr.pos, Bool.and_false, Bool.false_and]
    | _ => exact .inl rfl
  · exact .inl (noSwap (by simpa using h))
theorem noPar {tg e : Expr} {n : Nat} {Γ : Ct} {g : Tg} {env : Env} (hg : compG n Γ tg = some g) (h : (isTupE tg && isTupE e) = false) : swappedStores [tg] e env = pure none := by
  cases tg with
  | Tuple ts k p => cases e <;> first | rfl | cases h
  | List ts p => cases n <;> simp [compG] at hg
  | _ => rfl
theorem g_one {tg : Expr} {n : Nat} {Γ : Ct} {g : Tg} {env : Env} (hg : compG n Γ tg = some g) : (assignEach [tg] env).map (·.2) = [assign tg env] := by rw [compG_each hg]; rfl
def isStar : Expr → Bool
  | .Starred _ _ => true
  | _ => false
theorem compE_star {n : Nat} {Γ : Ct} {e : Expr} {c : C} (h : compE n Γ e = some c) : isStar e = false := by
  cases e <;> first | rfl | (cases n <;> simp [compE] at h)
theorem sw_par {x y : Str} {px py p1 p2 : Pos} {k1 k2 : Nat} {a b : Expr} {env : Env} (hk : env.scope.kind = .function) (hx : env.scope.names.lookup x = some .local) (hy : env.scope.names.lookup y = some .local) (hne : x ≠ y) (hl : (px.line == py.line) = true)
    (sa : isStar a = false) (sb : isStar b = false) (hf : (foldedForSure 8 a && foldedForSure 8 b) = false) (hc : (constantsAlone 8 a && constantsAlone 8 b) = false) :
    swappedStores [.Tuple [.Name x px, .Name y py] k1 p1] (.Tuple [a, b] k2 p2) env = pure (some [x, y]) := by
  have ky : env.kindOf y = some .local := hy
  have kx : env.kindOf x = some .local := hx
  have hb : env.blockKind = .function := by unfold Env.blockKind; rw [hk]; rfl
  have hl' : py.line = px.line := by rw [beq_iff_eq] at hl; exact hl.symm
  have st : ∀ e ∈ [a, b], isStar e = false := fun e he => by
    simp only [List.mem_cons, List.mem_nil_iff, or_false] at he
    rcases he with rfl | rfl
    · exact sa
    · exact sb
  have hyx : (y == x) = false := by simpa using Ne.symm hne
  unfold swappedStores
  dsimp only
  rw [if_neg (by simp [hb])]
  rw [if_neg (by
    intro h
    rw [List.any_eq_true] at h
    obtain ⟨e, he, hm⟩ := h
    have := st e he
    cases e <;> first | (cases this; done) | (cases hm; done))]
  simp only [List.filterMap_cons, List.filterMap_nil, Expr.pos, kx, ky, List.head?_cons, Option.map_some, Option.getD_some, hl', beq_self_eq_true, Bool.and_self, if_true]
  rw [if_neg (by simp [List.eraseDups_cons, hyx])]
  rw [if_neg (by simp only [List.all_cons, List.all_nil, Bool.and_true, hf]; exact Bool.false_ne_true)]
  rw [if_neg (by simp only [List.all_cons, List.all_nil, Bool.and_true, hc]; exact Bool.false_ne_true)]
section
variable {Φ : Ft} {n : Nat} {Γ : Ct} {X : Cx} {W : WX} {D0 : Addr → Prop}
theorem Ok.st (ok : Ok Γ Φ X W) {x : Str} {i : Nat} (h : ixSt Γ x = some i) : X.N[i]? = some x ∧ Loc X.env.scope x ∧ (X.fn x = true ∨ X.env.scope.names.lookup x = some .local) := by
  unfold ixSt at h
  split at h
  · rename_i hc
    simp only [Bool.and_eq_true] at hc
    have hst := hc.1
    unfold stB at hst
    refine ⟨by rw [ok.N]; exact ixN0_is h, ?_⟩
    rw [ok.sc]
    split at hst
    · rename_i e; exact ⟨.inl e, .inr e⟩
    · rename_i e; exact ⟨.inr e, .inl (ok.fnc x hst)⟩
    · cases hst
  · cases h
theorem g_name_of {x : Str} {p : Pos} {g : Tg} (h : compG n Γ (.Name x p) = some g) : ∃ i, ixSt Γ x = some i ∧ g = .name i := by
  cases n with
  | zero => simp [compG] at h
  | succ n =>
    unfold compG at h
    obtain ⟨i, hi, z⟩ := Option.map_eq_some_iff.mp h
    exact ⟨i, hi, z.symm⟩
theorem g_notname {tg : Expr} {g : Tg} (h : compG n Γ tg = some g) (hn : ∀ x p, tg ≠ .Name x p) : ∀ i, g ≠ .name i := by
  cases n with
  | zero => simp [compG] at h
  | succ n =>
    unfold compG at h
    split at h
    · exact absurd rfl (hn _ _)
    · split at h
      · cases h
      obtain ⟨gs, _, z⟩ := Option.map_eq_some_iff.mp h; subst z; exact fun i z => nomatch z
    · split at h
      · cases h
      · obtain ⟨_, _, z⟩ := Option.bind_eq_some_iff.mp h; obtain ⟨_, _, z⟩ := Option.map_eq_some_iff.mp z; subst z; exact fun i z => nomatch z
    · cases h
theorem evS_asgG {g : Tg} {e : C} (h : ∀ i, g ≠ .name i) : evS Φ (.asg g e) = fun env => (evE Φ e env).bind fun o env1 => (evG Φ g o.t env1).bind fun _ env2 => .ok .next env2 := by
  cases g with
  | name i => exact absurd rfl (h i)
  | tup gs => simp only [evS]
  | sub i c => simp only [evS]
theorem compE_lc {elt : Expr} {gs : List Comprehension} {scope : Scope} {pos : Pos} {c : C} (h : compE (n + 1) Γ (.ListComp elt gs scope pos) = some c) :
    ∃ tg iter ifs c' it g k own, gs = [⟨tg, iter, ifs, 0⟩] ∧ compLC n Γ elt tg iter ifs scope = some (c', it, g, k, own) ∧ c = .lc c' it g k own := by
  unfold compE at h
  split at h
  all_goals first | (rename_i heq; cases heq; done) | skip
  · rename_i heq
    cases heq
    obtain ⟨⟨c', it, g, k, own⟩, hc, z⟩ := Option.map_eq_some_iff.mp h
    exact ⟨_, _, _, c', it, g, k, own, rfl, hc, z.symm⟩
  · cases h
/-- name = [..] -/
theorem s_setLc (s : Snd Φ n) {elt tg iter : Expr} {ifs : List Expr} {scope : Scope} {pos spos py : Pos} {y : Str} {i : Nat} {c : C} {it : It} {g : Tg} {k : Option C} {own : List Nat} (ok : Ok Γ Φ X W) (h : compLC (n + 1) Γ elt tg iter ifs scope = some (c, it, g, k, own))
    (hi : ixSt Γ y = some i) (hy : Γ.sc.names.lookup y = some .local) (hl : (py.line == pos.line) = true) (ha : (scope.names.any fun (n, k) => n == y && (k == .local || k == .cell)) = false) :
    PS X (.Assign [.Name y py] (.ListComp elt [⟨tg, iter, ifs, 0⟩] scope pos) spos) (tS X.K X.mg D0 W (evS Φ (.asg (.name i) (.lc c it g k own)))) := by
  obtain ⟨hN, _, _⟩ := ok.st hi
  have hyl : X.env.scope.names.lookup y = some .local := by rw [ok.sc]; exact hy
  unfold compLC at h
  split at h
  · rename_i hb
    simp only [Bool.and_eq_true, Bool.not_eq_true'] at hb
    obtain ⟨hb, hho⟩ := hb
    obtain ⟨it', hi', z⟩ := Option.bind_eq_some_iff.mp h
    obtain ⟨g', hg, z⟩ := Option.bind_eq_some_iff.mp z
    split at z
    · rename_i hsl
      obtain ⟨c', hc, z⟩ := Option.bind_eq_some_iff.mp z
      obtain ⟨k', hk, z⟩ := Option.map_eq_some_iff.mp z
      cases z
      have bok : BlkOk X.N X.env.scope scope (ownOf Γ.N scope.names) := by
        rw [ok.N, ok.sc]; exact blkOk_by hb.1
      have okB : ∀ (s' : Shared) (H' : Hp) (C' : Addr) (cl : List (Str × Addr)) (fp : List Addr), Ok { Γ with sc := relS' scope Γ.sc, fnc := fun y => scope.names.lookup y == some .cell } Φ (X.blk s' H' scope (compEnvC scope cl C' X.env) fp) W0 := fun s' H' C' cl fp =>
        ⟨ok.N, by show relS scope X.env.scope = relS scope Γ.sc; rw [ok.sc], bok.kind, ok.nd, ok.calm, ok.hu, takes0, PassesOwn.never, fun x hx => hx, ok.mo.to ⟨rfl, rfl, rfl, rfl, rfl, rfl, rfl⟩⟩
      have hsl : ∀ i ∈ tgSlots g, i ∈ (ownOf Γ.N scope.names).map (·.2) := fun i hi => by
        have := List.all_eq_true.mp hsl i hi
        simpa using this
      refine ps_imp (ps_setLc (own := ownOf Γ.N scope.names) (wi := tI X.K X.mg D0 W (evI Φ it)) (g := fun v σ H Q => ∃ D1, VL.tG X.K X.mg D1 W0 (tgSlots g) (evG Φ g) v σ H Q) (tt := ttC X.K X.mg (evC Φ k)) (te := fun σ H Q => ∃ D1, tR X.K X.mg D1 W0 (OutR X.K X.mg D1) (evE Φ c) σ H Q)
        (ok.calm hho) ok.N' hN hyl (sw_true ok.kd hyl hl ha) (s.i D0 ok hi') bok ?_ ?_ ?_ (folded hb.2)) fun D σ H q => ?_
      · intro s' H' C' cl fp
        exact ⟨fun pins s2 σ H v u Q I r ⟨D1, q⟩ => (s.g D1 (okB s' H' C' cl fp) hg).run pins s2 σ H v u Q I r q⟩
      · intro s' H' C' cl fp
        exact s.cif (okB s' H' C' cl fp) hk
      · intro s' H' C' cl fp
        exact ⟨fun pins s2 σ H Q I ⟨D1, q⟩ => (s.e D1 (okB s' H' C' cl fp) hc).run pins s2 σ H Q I q⟩
      · simp only [evS] at q
        have q2 : tR X.K X.mg D0 W (OutR X.K X.mg D0) (evE Φ (.lc c it g k ((ownOf Γ.N scope.names).map (·.2)))) σ H fun x H1 => gName i x σ H1 D.nx := asg_imp q
        simp only [evE] at q2
        exact lc_imp hsl q2
    · cases z
  · cases h
/-- the context is a def's own frame, not a block's -/
def TopX (X : Cx) : Prop := X.stack = X.env :: X.outer ∧ X.env.frame = some X.env.locals ∧ X.ex = []
def SndS (Φ : Ft) (n : Nat) : Prop := ∀ {Γ : Ct} {X : Cx} {W : WX} (D0 : Addr → Prop) {st : Stmt} {c : S}, Ok Γ Φ X W → TopX X → compS n Γ st = some c → PS X st (tS X.K X.mg D0 W (evS Φ c))
def SndSs (Φ : Ft) (n : Nat) : Prop := ∀ {Γ : Ct} {X : Cx} {W : WX} (D0 : Addr → Prop) {st : List Stmt} {c : List S}, Ok Γ Φ X W → TopX X → compSs n Γ st = some c → PSs X st (tS X.K X.mg D0 W (evSs Φ c))
theorem evS_ret {e : C} (h : ∀ i, e ≠ .slot i) : evS Φ (.ret e) = fun env => (evE Φ e env).bind fun o env1 => .ok (.ret o) env1 := by
  cases e with
  | slot i => exact absurd rfl (h i)
  | _ => simp only [evS]
theorem Ok.nox (ok : Ok Γ Φ X W) : Ok Γ Φ X.nox W0 := ⟨ok.N, ok.sc, ok.kd, ok.nd, ok.calm, ok.hu, takes0, PassesOwn.never, ok.fnc, ok.mo⟩
theorem s_const {k : Const} {t : T} {j : Nat} {pos : Pos} (ht : constC k = some t) : PE X (.Constant k j pos) (tR X.K X.mg D0 W (OutR X.K X.mg D0) (evE Φ (.cst t))) := by
  unfold constC at ht
  split at ht
  · cases ht; exact pe_imp pe_non fun σ H Q q => cst_imp (fun _ _ => .non) (by simpa only [evE] using q)
  · cases ht; exact pe_imp pe_bl fun σ H Q q => cst_imp (fun _ _ => .bl _) (by simpa only [evE] using q)
  · cases ht; exact pe_imp pe_int fun σ H Q q => cst_imp (fun _ _ => .int _) (by simpa only [evE] using q)
  · cases ht; exact pe_imp pe_str fun σ H Q q => cst_imp (fun _ _ => .str _) (by simpa only [evE] using q)
  · cases ht
theorem Ok.tr (ok : Ok Γ Φ X W) {W' : WX} {pn : List (Addr × Obj)} {xe : Value → Shared → Prop} (tk : Takes (X.tr pn xe) W') (ps : PassesOwn (model X.prog X.w) X.A X.env xe) : Ok Γ Φ (X.tr pn xe) W' := ⟨ok.N, ok.sc, ok.kd, ok.nd, ok.calm, ok.hu, tk, ps, ok.fnc, ok.mo⟩
theorem Mo.suite {A : Around} {base : Heap} {P : Program} {w : World} {K : PySem.W.Frag} {mg : Str → Option Value} {Γ : Ct} (m : Mo P w K mg base A Γ Φ) (a : Value) : Mo P w K mg base (A.mark (some a)) { Γ with hot := true } Φ :=
  ⟨m.bl, m.gl, fun _ _ _ z => Bool.noConfusion (show true = false from z), fun x F hx hF => let ⟨f, fd, ps, k, h1, h2, h3, h4, h5⟩ := m.fq x F hx hF; ⟨f, fd, ps, k, h1, h2, h3, h4, ⟨h5.dq, h5.uq⟩⟩, fun _ _ _ z => Bool.noConfusion (show true = false from z), m.kn, fun _ _ _ _ z => Bool.noConfusion (show true = false from z),
    fun x fs h => let ⟨C, k, h1, h2, h3, h4, h5, _⟩ := m.ex x fs h; ⟨C, k, h1, h2, h3, h4, h5, fun z => Bool.noConfusion (show true = false from z)⟩, m.exs, m.isa, m.cis, m.mks⟩
theorem Ok.suite (ok : Ok Γ Φ X W) (a : Addr) (pn : List (Addr × Obj)) : Ok { Γ with hot := true } Φ (X.suite a pn) W0 :=
  ⟨ok.N, ok.sc, ok.kd, ok.nd, fun z => Bool.noConfusion (show true = false from z), ok.hu, takes0, PassesOwn.never, ok.fnc, ok.mo.suite (.ref a)⟩
/-- raise -/
theorem raise0_imp {x : Str} {fs : List Str} {C : Addr} {D : Ends} {σ : L2.St} {H : Hp} (hx : Φ.ex x = some fs) (hm : X.mg x = some (.ref C)) (h : tS X.K X.mg D0 W (evS Φ (.raise x [])) D σ H) : fs = [] ∧ W (.ref C) none σ H := by
  obtain ⟨env, R, q⟩ := h
  simp only [evS, hx] at q
  cases fs with
  | cons f fs => rw [if_neg (by simp)] at q; exact q.elim
  | nil =>
    rw [if_pos (show ([] : List VL.C).length = ([] : List Str).length from rfl)] at q
    have q : PF X.K X.mg D0 W D env σ H (.exc (.exc x [] []) env) := q
    exact ⟨rfl, q (.ref C) none σ H Step.refl R ⟨x, [], [], C, rfl, hm, rfl, .inl ⟨rfl, rfl, rfl⟩⟩⟩
theorem upd_exc {H : Hp} {a C dx : Addr} {fs : List (Str × V)} (ha : H a = none) (hd : dx ≠ a) : upd (L2.del (upd (upd (upd H a (exo a C none)) dx (exd dx fs)) a (exo a C (some dx))) a) dx (.xd fs) = upd H dx (.xd fs) := by
  funext b
  by_cases hb : b = dx
  · subst hb; rw [upd_same, upd_same]
  · rw [upd_ne hb, upd_ne hb]
    by_cases hba : b = a
    · subst hba; rw [L2.del_same, ha]
    · rw [L2.del_ne hba, upd_ne hba, upd_ne hb, upd_ne hba]
theorem raise1_imp {x g : Str} {c : C} {C : Addr} {D : Ends} {σ : L2.St} {H : Hp} (hx : Φ.ex x = some [g]) (hm : X.mg x = some (.ref C)) (T : OexC X.K C) (hno : PySem.W.findIn X.K (.ref C) g = some none)
    (h : tS X.K X.mg D0 W (evS Φ (.raise x [c])) D σ H) : tMkO C (InitX X.K g) [] (tA X.K X.mg D0 W (ValsR X.K X.mg D0) (vals (evL Φ [c]))) σ H fun cls d H' => W cls d σ H' := by
  obtain ⟨env, R, q⟩ := h
  simp only [evS, hx] at q
  rw [if_pos (show [c].length = [g].length from rfl)] at q
  refine ⟨env, R, ?_⟩
  revert q
  cases vals (evL Φ [c]) env with
  | stuck => exact id
  | exc y e => exact XPostS.expr
  | ok ts e =>
    intro q vs H1 S R1 rv
    have q : PF X.K X.mg D0 W D env σ H (if ts.length = [g].length then .exc (.exc x [g] ts) e else .stuck) := q
    split at q
    · rename_i hl
      have hvl : vs.length = 1 := by rw [← RepL.length rv]; exact hl
      match vs, hvl with
      | [v], _ =>
        refine ⟨by simp, fun a ha => ?_⟩
        refine ⟨a, C, v, rfl, T, upd_same, hno, fun dx hdx hne => ⟨rfl, dx, [(g, v)], upd_same, (upd_ne hne).trans upd_same, ?_, ?_⟩⟩
        · rw [upd_ne hne] at hdx; exact hdx
        · rw [upd_ne hne] at hdx
          rw [upd_exc ha hne]
          exact q (.ref C) (some dx) σ _ (S.trans (Step.grow (same_upd hdx))) (R1.same (same_upd hdx)) ⟨x, [g], ts, C, rfl, hm, rfl, .inr ⟨dx, [v], rfl, upd_same, R1.d2 dx hdx, rfl, RepL.grow hdx rv⟩⟩
    · exact q.elim
/-- what is thrown, seen as a thing that stands -/
theorem exc_rep {K : PySem.W.Frag} {mg : Str → Option Value} {H : Hp} {D : Addr → Prop} {x : T} {cls : Value} {d : Option Addr} {a : Addr} (h : ExcRep K mg H D x cls d) (ha : H a = none) (nd : ¬ D a) : Rep K mg (upd H a (exv a cls d)) D x (.ref a) := by
  obtain ⟨c, fn, fv, Ca, rfl, hm, rfl, h⟩ := h
  rcases h with ⟨rfl, rfl, rfl⟩ | ⟨dd, vs, rfl, hd, hn, hl, r⟩
  · exact .exc0 hm upd_same nd
  · exact .exc hm upd_same nd ((upd_ne (fun z => by rw [z, ha] at hd; cases hd)).trans hd) hn hl (RepL.grow ha r)
/-- what a clause says of an exception -/
theorem cat_is {K : PySem.W.Frag} {mg : Str → Option Value} {H : Hp} {D : Addr → Prop} {x : T} {cls : Value} {d : Option Addr} {y : Str} {C : Addr} {b : Bool} (hy : mg y = some (.ref C)) (xk : XcK K C)
    (hisa : ∀ c d fc fd C D, Φ.ex c = some fc → Φ.ex d = some fd → mg c = some (.ref C) → mg d = some (.ref D) → PySem.W.subIn K (.ref C) (.ref D) = some (Φ.isa c d)) (h : ExcRep K mg H D x cls d) (q : catX Φ y x = some b) : PySem.W.exmOne K cls (.ref C) = some b := by
  obtain ⟨c, fn, fv, Ca, rfl, hm, rfl, _⟩ := h
  have q : (if (Φ.ex c).isSome && (Φ.ex y).isSome then some (Φ.isa c y) else none) = some b := q
  split at q
  · rename_i hc
    cases q
    rw [Bool.and_eq_true] at hc
    obtain ⟨f1, h1⟩ := Option.isSome_iff_exists.mp hc.1
    obtain ⟨f2, h2⟩ := Option.isSome_iff_exists.mp hc.2
    exact xk.ex (hisa c y f1 f2 Ca C h1 h2 hm hy)
  · cases q
/-- try: .. except y as e: v = e -/
theorem has_imp {m : M Fw} {i j : Nat} {y : Str} {C : Addr} {D : Ends} {σ : L2.St} {H : Hp} (hy : X.mg y = some (.ref C)) (xk : XcK X.K C)
    (hisa : ∀ c d fc fd C D, Φ.ex c = some fc → Φ.ex d = some fd → X.mg c = some (.ref C) → X.mg d = some (.ref D) → PySem.W.subIn X.K (.ref C) (.ref D) = some (Φ.isa c d))
    (h : tS X.K X.mg D0 W (fun env => match m env with
    | .ok f env1 => .ok f env1
    | .exc x env1 => (match catX Φ y x with
      | some true => keepX i j x env1
      | some false => .exc x env1
      | none => .stuck)
    | .stuck => .stuck) D σ H) : tS X.K X.mg D0 (wHas X.K (.ref C) i (fun a => tAsg (tVar i) (gName j)) W D) m D σ H := by
  obtain ⟨env, R, q⟩ := h
  refine ⟨env, R, ?_⟩
  dsimp only at q
  revert q
  cases m env with
  | stuck => exact id
  | ok f e1 => exact id
  | exc x e1 =>
    intro q cls d σ' H' S R' xr
    dsimp only at q
    cases hc : catX Φ y x with
    | none => rw [hc] at q; exact q.elim
    | some b =>
      rw [hc] at q
      refine ⟨b, cat_is hy xk hisa xr hc, fun hb a ha => ?_, fun hb => ?_⟩
      · subst hb
        have q : PF X.K X.mg D0 W D env σ H (keepX i j x e1) := q
        have nd := R'.d2 a ha
        have r := exc_rep xr ha nd
        have sm : Same H' (upd H' a (exv a cls d)) := same_upd ha
        have R2 := R'.same sm
        have S2 := S.trans (Step.grow sm)
        unfold keepX at q
        split at q
        · exact q.elim
        · rename_i hij
          have h1 : setName i (.val x) e1 ≠ .stuck := fun z => by rw [z] at q; exact q.elim
          obtain ⟨s1, g1, f1, w1⟩ := setName_is h1
          rw [w1, bind_ok] at q
          have h2 : setName j (.val x) (e1.set i (outS (.val x))) ≠ .stuck := fun z => by rw [z] at q; exact q.elim
          obtain ⟨s2, g2, f2, w2⟩ := setName_is h2
          rw [w2, bind_ok] at q
          have p1 := put_ok (o := .val x) R2 Step.refl R2 r g1 f1
          have r2 : Rep X.K X.mg (upd H' a (exv a cls d)) (Dof D0 (e1.set i (outS (.val x))) (σ'.set i (some (.ref a)))) x (.ref a) := Step.rep R2 p1.1 r
          have p2 := put_ok (o := .val x) p1.2 Step.refl p1.2 r2 g2 f2
          have hlen : i < e1.length := get_lt g1
          refine ⟨.ref a, ?_, ?_⟩
          · rw [List.getElem?_set_self (by rw [← R'.len]; exact hlen)]
          · refine q _ _ ((S2.trans p1.1).trans (p2.1.trans ?_)) (p2.2.drop i none)
            refine step_set (s := outS (.val x)) ?_ rfl fun f t z => nomatch z
            rw [List.getElem?_set_ne (Ne.symm hij), List.getElem?_set_self hlen]
      · subst hb
        exact q cls d σ' H' S R' xr
/-- try: .. except y as e: any suite -/
theorem hand_imp {m hd : M Fw} {i : Nat} {y : Str} {C : Addr} {D : Ends} {σ : L2.St} {H : Hp} (hy : X.mg y = some (.ref C)) (xk : XcK X.K C)
    (hisa : ∀ c d fc fd C D, Φ.ex c = some fc → Φ.ex d = some fd → X.mg c = some (.ref C) → X.mg d = some (.ref D) → PySem.W.subIn X.K (.ref C) (.ref D) = some (Φ.isa c d))
    (h : tS X.K X.mg D0 W (fun env => match m env with
    | .ok f env1 => .ok f env1
    | .exc x env1 => (match catX Φ y x with
      | some true => handX i x hd env1
      | some false => .exc x env1
      | none => .stuck)
    | .stuck => .stuck) D σ H) : tS X.K X.mg D0 (wHas X.K (.ref C) i (fun _ => tS X.K X.mg D0 W0 hd) W D) m D σ H := by
  obtain ⟨env, R, q⟩ := h
  refine ⟨env, R, ?_⟩
  dsimp only at q
  revert q
  cases m env with
  | stuck => exact id
  | ok f e1 => exact id
  | exc x e1 =>
    intro q cls d σ' H' S R' xr
    dsimp only at q
    cases hc : catX Φ y x with
    | none => rw [hc] at q; exact q.elim
    | some b =>
      rw [hc] at q
      refine ⟨b, cat_is hy xk hisa xr hc, fun hb a ha => ?_, fun hb => ?_⟩
      · subst hb
        have q : PF X.K X.mg D0 W D env σ H (handX i x hd e1) := q
        have nd := R'.d2 a ha
        have r := exc_rep xr ha nd
        have sm : Same H' (upd H' a (exv a cls d)) := same_upd ha
        have R2 := R'.same sm
        have S2 := S.trans (Step.grow sm)
        unfold handX at q
        have h1 : setName i (.val x) e1 ≠ .stuck := fun z => by rw [z] at q; exact q.elim
        obtain ⟨s1, g1, f1, w1⟩ := setName_is h1
        rw [w1, bind_ok] at q
        have p1 := put_ok (o := .val x) R2 Step.refl R2 r g1 f1
        refine ⟨_, p1.2, ?_⟩
        revert q
        cases hd (e1.set i (outS (.val x))) with
        | stuck => exact id
        | exc u e2 => exact fun q => q.elim
        | ok f e2 =>
          intro q
          cases f with
          | brk => exact False.elim q
          | ret o => exact False.elim q
          | next =>
            dsimp only at q
            intro σ2 H2 S3 R3
            cases hs : e2[i]? with
            | none => rw [hs] at q; exact False.elim q
            | some sl =>
              rw [hs] at q
              rcases sl with _ | ⟨fl, t⟩
              · exact False.elim q
              · cases fl <;> first | exact False.elim q | skip
                exact q _ _ (((S2.trans p1.1).trans S3).trans (step_set hs rfl fun f t z => nomatch z)) (R3.drop i none)
      · subst hb
        exact q cls d σ' H' S R' xr
/-- try: .. except y: return a; else: return b -/
theorem only_imp {m : M Fw} {k l : M Out} {y : Str} {C : Addr} {D : Ends} {σ : L2.St} {H : Hp} (hy : X.mg y = some (.ref C)) (xk : XcK X.K C)
    (hisa : ∀ c d fc fd C D, Φ.ex c = some fc → Φ.ex d = some fd → X.mg c = some (.ref C) → X.mg d = some (.ref D) → PySem.W.subIn X.K (.ref C) (.ref D) = some (Φ.isa c d))
    (h : tS X.K X.mg D0 W (fun env => match m env with
    | .ok .next env1 => (k env1).bind fun o env2 => .ok (.ret o) env2
    | .exc x env1 => (match catX Φ y x with
      | some true => (l env1).bind fun o env2 => .ok (.ret o) env2
      | some false => .exc x env1
      | none => .stuck)
    | _ => .stuck) D σ H) : tS X.K X.mg D0 (wOnly X.K (.ref C) (fun _ _ _ => tRet (tR X.K X.mg D0 W (OutR X.K X.mg D0) l)) W D) m { D with nx := tRet (tR X.K X.mg D0 W (OutR X.K X.mg D0) k) D } σ H := by
  obtain ⟨env, R, q⟩ := h
  refine ⟨env, R, ?_⟩
  dsimp only at q
  revert q
  cases m env with
  | stuck => exact id
  | ok f e1 =>
    intro q
    cases f with
    | brk => exact False.elim q
    | ret o => exact False.elim q
    | next =>
      intro σ' H' S R'
      exact ret_imp ⟨e1, R', PF.back S q⟩
  | exc x e1 =>
    intro q cls d σ' H' S R' xr
    dsimp only at q
    cases hc : catX Φ y x with
    | none => rw [hc] at q; exact q.elim
    | some b =>
      rw [hc] at q
      refine ⟨b, cat_is hy xk hisa xr hc, fun hb a ha => ?_, fun hb => ?_⟩
      · subst hb
        exact ret_imp ⟨e1, R', PF.back S q⟩
      · subst hb
        exact q cls d σ' H' S R' xr
theorem s_ss (i1 : SndS Φ n) (i2 : SndSs Φ n) {st : List Stmt} {c : List S} (ok : Ok Γ Φ X W) (tp : TopX X) (h : compSs (n + 1) Γ st = some c) : PSs X st (tS X.K X.mg D0 W (evSs Φ c)) := by
  cases st with
  | nil =>
    simp [compSs] at h; subst h
    refine pss_imp pss_nil fun D σ H q => ?_
    obtain ⟨env, R, q⟩ := q
    exact q σ H Step.refl R
  | cons st sts =>
    unfold compSs at h
    obtain ⟨c1, h1, z⟩ := Option.bind_eq_some_iff.mp h
    obtain ⟨cs, h2, z⟩ := Option.map_eq_some_iff.mp z
    subst z
    refine pss_imp (pss_cons (i1 D0 ok tp h1) (i2 D0 ok tp h2)) fun D σ H q => ?_
    simp only [evSs] at q
    exact seq_imp q
theorem s_s (i1 : SndS Φ n) (i2 : SndSs Φ n) {st : Stmt} {c : S} (ok : Ok Γ Φ X W) (tp : TopX X) (h : compS (n + 1) Γ st = some c) : PS X st (tS X.K X.mg D0 W (evS Φ c)) := by
  have s := snd (Φ := Φ) n
  unfold compS at h
  split at h
  · -- an assignment
    rename_i tg e pos
    split at h
    · rename_i htt
      split at h
      · rename_i x px y py k1 p1 a b k2 p2
        have h : (if locK Γ x && locK Γ y && decide (x ≠ y) && (px.line == py.line) && !(foldedForSure 8 a && foldedForSure 8 b) && !(constantsAlone 8 a && constantsAlone 8 b) && !Γ.hot then
            (ixSt Γ x).bind fun i => (ixSt Γ y).bind fun j => (compE n Γ a).bind fun a' => (compE n Γ b).map fun b' => S.par i j a' b' else none) = some c := h
        split at h
        · rename_i hc
          simp only [Bool.and_eq_true, decide_eq_true_eq, Bool.not_eq_true'] at hc
          obtain ⟨⟨⟨⟨⟨⟨hx, hy⟩, hne⟩, hln⟩, hf⟩, hcn⟩, hho⟩ := hc
          obtain ⟨i, hi, z⟩ := Option.bind_eq_some_iff.mp h
          obtain ⟨j, hj, z⟩ := Option.bind_eq_some_iff.mp z
          obtain ⟨a', ha, z⟩ := Option.bind_eq_some_iff.mp z
          obtain ⟨b', hb, z⟩ := Option.map_eq_some_iff.mp z
          subst z
          have hx : X.env.scope.names.lookup x = some .local := by rw [ok.sc]; exact locK_is hx
          have hy : X.env.scope.names.lookup y = some .local := by rw [ok.sc]; exact locK_is hy
          obtain ⟨hNi, _, _⟩ := ok.st hi
          obtain ⟨hNj, _, _⟩ := ok.st hj
          have hij : i ≠ j := fun z => by
            subst z
            rw [hNi] at hNj
            exact hne (Option.some.inj hNj)
          have pa : PA X [a, b] (tA X.K X.mg D0 W (ValsR X.K X.mg D0) (vals [evE Φ a', evE Φ b'])) := pa_imp (pa_cons (s.e D0 ok ha) (pa_cons (s.e D0 ok hb) pa_nil (notStar hb)) (notStar ha)) fun σ H Q q => by
            have q := vals_cons_imp q
            obtain ⟨env, R, q⟩ := q
            refine ⟨env, R, ?_⟩
            revert q
            cases evE Φ a' env with
            | stuck => exact id
            | exc x e => exact id
            | ok o e =>
              intro q v H1 S R1 ho
              have q := vals_cons_imp (q v H1 S R1 ho)
              obtain ⟨env1, R1', q⟩ := q
              refine ⟨env1, R1', ?_⟩
              revert q
              cases evE Φ b' env1 with
              | stuck => exact id
              | exc x e => exact id
              | ok o e => exact fun q v H1 S R1 ho => vals_nil_imp (q v H1 S R1 ho)
          refine ps_imp (ps_par (ok.calm hho) ok.N' hNi hNj hij hx hy pa (sw_par ok.kd hx hy hne hln (compE_star ha) (compE_star hb) hf hcn) rfl) fun D σ H q => ?_
          exact par_imp q
        · cases h
      · cases h
    · rename_i htt
      split at h
      · rename_i hlc
        obtain ⟨g, hg, z⟩ := Option.bind_eq_some_iff.mp h
        obtain ⟨e', he, z⟩ := Option.map_eq_some_iff.mp z
        subst z
        rcases isLC_of (l := _) ok.kd ok.sc hlc with hno | ⟨elt, gs, scope, lpos, y, py, rfl, rfl, hy, hln, hany⟩
        · by_cases hn : ∃ x p, tg = .Name x p
          · obtain ⟨x, p, rfl⟩ := hn
            obtain ⟨i, hi, rfl⟩ := g_name_of hg
            obtain ⟨hN, hl, hf⟩ := ok.st hi
            refine ps_imp (ps_set ok.N' hN hl (s.e D0 ok he) hno hf) fun D σ H q => ?_
            simp only [evS] at q
            exact asg_imp q
          · have hgn := g_notname hg fun x p z => hn ⟨x, p, z⟩
            refine ps_imp (ps_asg (s.e D0 ok he) (s.g D0 ok hg) hno (noPar hg (by simpa using htt)) (g_one hg)) fun D σ H q => ?_
            rw [evS_asgG hgn] at q
            exact asgG_imp q
        · obtain ⟨i, hi, rfl⟩ := g_name_of hg
          cases n with
          | zero => simp [compE] at he
          | succ n =>
            obtain ⟨tg, iter, ifs, c', it, g, k, own, rfl, hc, rfl⟩ := compE_lc he
            cases n with
            | zero => simp [compLC] at hc
            | succ n => exact s_setLc (snd n) ok hc hi hy hln hany
      · cases h
  · -- an expression
    rename_i e pos
    split at h
    · cases h
    · rename_i hlc
      obtain ⟨c, hc, z⟩ := Option.map_eq_some_iff.mp h
      subst z
      refine ps_imp (ps_expr (s.e D0 ok hc) (noSwap (by simpa using hlc))) fun D σ H q => ?_
      simp only [evS] at q
      exact drop_imp q
  · -- if
    rename_i t a b pos
    obtain ⟨t', ht, z⟩ := Option.bind_eq_some_iff.mp h
    obtain ⟨a', ha, z⟩ := Option.bind_eq_some_iff.mp z
    obtain ⟨b', hb, z⟩ := Option.map_eq_some_iff.mp z
    subst z
    refine ps_imp (ps_if (s.t D0 ok ht) (i2 D0 ok tp ha) (i2 D0 ok tp hb)) fun D σ H q => ?_
    simp only [evS] at q
    exact if_imp q
  · -- for
    rename_i tg iter body pos
    split at h
    · cases h
    · rename_i hset
      have hset : isSet iter = false ∧ Γ.hot = false := by simpa using hset
      obtain ⟨hset, hho⟩ := hset
      obtain ⟨g, hg, z⟩ := Option.bind_eq_some_iff.mp h
      obtain ⟨it, hi, z⟩ := Option.bind_eq_some_iff.mp z
      obtain ⟨b, hb, z⟩ := Option.map_eq_some_iff.mp z
      subst z
      refine ps_imp (ps_for ok.ps (ok.calm hho) (s.i D0 ok hi) (s.g D0 ok hg) (i2 D0 ok tp hb) (folded hset)) fun D σ H q => ?_
      simp only [evS] at q
      exact for_imp q
  · -- while
    rename_i t body pos
    obtain ⟨t', ht, z⟩ := Option.bind_eq_some_iff.mp h
    obtain ⟨b, hb, z⟩ := Option.map_eq_some_iff.mp z
    subst z
    refine ps_imp (ps_while ok.ps (s.t D0 ok ht) (i2 D0 ok tp hb)) fun D σ H q => ?_
    simp only [evS] at q
    exact while_imp q
  · -- return
    rename_i e pos
    obtain ⟨c, hc, z⟩ := Option.map_eq_some_iff.mp h
    subst z
    by_cases hs : ∃ i, c = .slot i
    · obtain ⟨i, rfl⟩ := hs
      obtain ⟨x, p, rfl, hi⟩ := compE_slot hc
      obtain ⟨h1, h2, h3, h4⟩ := ok.slot hi
      refine ps_imp (ps_ret (pe_var h1 h2 h3 h4)) fun D σ H q => ?_
      simp only [evS] at q
      exact retS_imp q
    · refine ps_imp (ps_ret (s.e D0 ok hc)) fun D σ H q => ?_
      rw [evS_ret fun i z => hs ⟨i, z⟩] at q
      exact ret_imp q
  · -- return, plain
    cases h
    refine ps_imp ps_retN fun D σ H q => ?_
    simp only [evS] at q
    obtain ⟨env, R, q⟩ := q
    exact q σ H Step.refl R .non .non
  · -- raise
    rename_i x p args ppos pos
    split at h
    · rename_i hx
      simp only [Bool.and_eq_true, decide_eq_true_eq, Bool.not_eq_true'] at hx
      obtain ⟨⟨⟨hgl, hok⟩, hxe⟩, hho⟩ := hx
      obtain ⟨k1, k2, k3⟩ := okName_is hok
      obtain ⟨fs, hfs⟩ := Option.isSome_iff_exists.mp (ok.mo.exs x hxe)
      obtain ⟨C, k, hm, xk, xt, hno, rk, hr⟩ := ok.mo.ex x fs hfs
      have rs : Raises X (.ref C) := raises_own xk.hs xk.ty
      split at h
      · cases h
        rcases rk with ⟨rfl, hxi⟩ | ⟨g, f, fd, ps, rfl, _⟩
        · exact ps_imp (ps_raise (ok.calm hho) ok.tk (pmk_own PySem.F.excBase_ValueError hxi hm xk.kp rs (ok.gl hgl) k1)) fun D σ H q => (raise0_imp hfs hm q).2
        · exact ps_imp ps_never fun D σ H q => nomatch (raise0_imp hfs hm q).1
      · rename_i a hnc
        obtain ⟨c', hc, z⟩ := Option.map_eq_some_iff.mp h
        subst z
        rcases rk with ⟨rfl, _⟩ | ⟨g, f, fd, ps, rfl, T, hi, ht, FO, hb⟩
        · refine ps_imp ps_never fun D σ H q => ?_
          obtain ⟨env, R, q⟩ := q
          simp only [evS, hfs] at q
          rw [if_neg (by simp)] at q
          exact q.elim
        · have hn : ∃ m, n = m + 1 := by
            cases n with
            | zero => simp [compE] at hc
            | succ m => exact ⟨m, rfl⟩
          obtain ⟨m, rfl⟩ := hn
          have hl : compL (m + 1 + 1) Γ [a] = some [c'] := by
            unfold compL
            rw [hc]
            rfl
          exact ps_imp (ps_raise (ok.calm hho) ok.tk (pmk_oex T hi ht FO (hr hho) hb .nil (passes_call ok.tk fun _ _ _ _ z => z.elim) (ok.gl hgl) hm (s_lv s ok hl) k1 (notStar hc) rfl)) fun D σ H q => raise1_imp hfs hm T (hno g (by simp)) q
      · cases h
    · cases h
  · cases h
    refine ps_imp ps_break fun D σ H q => ?_
    obtain ⟨env, R, q⟩ := q
    exact q σ H Step.refl R
  · cases h
    refine ps_imp ps_pass fun D σ H q => ?_
    obtain ⟨env, R, q⟩ := q
    exact q σ H Step.refl R
  · -- try .. except .. as
    rename_i body x p nm v vp nm' np p1 p2 p3
    split at h
    · rename_i hc
      simp only [Bool.and_eq_true, decide_eq_true_eq, Bool.not_eq_true'] at hc
      obtain ⟨⟨⟨⟨⟨hgl, hok⟩, hxe⟩, rfl⟩, hlk⟩, hho⟩ := hc
      obtain ⟨k1, k2, k3⟩ := okName_is hok
      obtain ⟨b, hb, z⟩ := Option.bind_eq_some_iff.mp h
      obtain ⟨i, hi, z⟩ := Option.bind_eq_some_iff.mp z
      obtain ⟨j, hj, z⟩ := Option.map_eq_some_iff.mp z
      subst z
      obtain ⟨fs, hfs⟩ := Option.isSome_iff_exists.mp (ok.mo.exs x hxe)
      obtain ⟨C, k, hm, xk, xt, hno, rk, hr⟩ := ok.mo.ex x fs hfs
      obtain ⟨hNi, hli, hfi⟩ := ok.st hi
      obtain ⟨hNj, hlj, hfj⟩ := ok.st hj
      have hk : X.env.kindOf nm = some .local := by
        show X.env.scope.names.lookup nm = _
        rw [ok.sc]; exact locK_is hlk
      have hso : okName nm = true := by
        unfold ixSt at hi
        split at hi
        · rename_i hc
          simp only [Bool.and_eq_true] at hc
          exact hc.2
        · cases hi
      obtain ⟨q1, q2, q3⟩ := okName_is hso
      refine ps_imp (ps_try_has (tb := fun W' => tS X.K X.mg D0 W' (evSs Φ b)) (ts := fun a => tAsg (tVar i) (gName j)) tp.1 tp.2.1 tp.2.2 ok.N' hNi hk (c := .ref C) ⟨ok.gl hgl, k1, .inl hm⟩ ok.tk (fun W' pn xe tk ps => i2 (X := X.tr pn xe) (W := W') D0 (ok.tr tk ps) tp hb) fun a pn => ?_) fun D σ H q => ?_
      · exact pss_one (ps_set (X := X.suite a pn) ok.N' hNj hlj (pe_var hNi (.inl hk) q1 q2) rfl hfj)
      · simp only [evS] at q
        exact has_imp hm xk (fun c d fc fd C D h1 h2 h3 h4 => (ok.mo.isa c d fc fd C D h1 h2 h3 h4).1) q
    · cases h
  · rename_i body x px a ja pa p1 p2 b jb pb p4 p5
    split at h
    · rename_i hc
      simp only [Bool.and_eq_true, decide_eq_true_eq, Bool.not_eq_true'] at hc
      obtain ⟨⟨⟨hgl, hok⟩, hxe⟩, hho⟩ := hc
      obtain ⟨k1, k2, k3⟩ := okName_is hok
      obtain ⟨b', hb, z⟩ := Option.bind_eq_some_iff.mp h
      obtain ⟨a', ha, z⟩ := Option.bind_eq_some_iff.mp z
      obtain ⟨c', hc', z⟩ := Option.map_eq_some_iff.mp z
      subst z
      obtain ⟨fs, hfs⟩ := Option.isSome_iff_exists.mp (ok.mo.exs x hxe)
      obtain ⟨C, k, hm, xk, xt, hno, rk, hr⟩ := ok.mo.ex x fs hfs
      refine ps_imp (ps_try_onlyE (tb := fun W' => tS X.K X.mg D0 W' (evSs Φ b')) (ts := fun _ _ _ => tRet (tR X.K X.mg D0 W (OutR X.K X.mg D0) (evE Φ (.cst a')))) (pss_one (ps_ret (s_const (Φ := Φ) hc' (D0 := D0) (W := W)))) tp.1 tp.2.1 (c := .ref C) ⟨ok.gl hgl, k1, .inl hm⟩ ok.tk (fun W' pn xe tk ps => i2 (X := X.tr pn xe) (W := W') D0 (ok.tr tk ps) tp hb)
        fun a oe cls d pn hz hf => pss_one (ps_ret (s_const (X := X.suite a ((a, oe) :: pn)) (Φ := Φ) ha (D0 := D0) (W := W)))) fun D σ H q => ?_
      simp only [evS] at q
      exact only_imp hm xk (fun c d fc fd C D h1 h2 h3 h4 => (ok.mo.isa c d fc fd C D h1 h2 h3 h4).1) q
    · cases h
  · -- try .. except .. as, any suite
    rename_i body x px nm b0 bs p1 p2 _
    split at h
    · rename_i hc
      simp only [Bool.and_eq_true, decide_eq_true_eq, Bool.not_eq_true'] at hc
      obtain ⟨⟨⟨⟨hgl, hok⟩, hxe⟩, hlk⟩, hho⟩ := hc
      obtain ⟨k1, k2, k3⟩ := okName_is hok
      obtain ⟨b, hb, z⟩ := Option.bind_eq_some_iff.mp h
      obtain ⟨i, hi, z⟩ := Option.bind_eq_some_iff.mp z
      obtain ⟨hd, hh, z⟩ := Option.map_eq_some_iff.mp z
      subst z
      obtain ⟨fs, hfs⟩ := Option.isSome_iff_exists.mp (ok.mo.exs x hxe)
      obtain ⟨C, k, hm, xk, xt, hno, rk, hr⟩ := ok.mo.ex x fs hfs
      obtain ⟨hNi, hli, hfi⟩ := ok.st hi
      have hk : X.env.kindOf nm = some .local := by
        show X.env.scope.names.lookup nm = _
        rw [ok.sc]; exact locK_is hlk
      refine ps_imp (ps_try_has (tb := fun W' => tS X.K X.mg D0 W' (evSs Φ b)) (ts := fun a => tS X.K X.mg D0 W0 (evSs Φ hd)) tp.1 tp.2.1 tp.2.2 ok.N' hNi hk (c := .ref C) ⟨ok.gl hgl, k1, .inl hm⟩ ok.tk (fun W' pn xe tk ps => i2 (X := X.tr pn xe) (W := W') D0 (ok.tr tk ps) tp hb)
        fun a pn => i2 (X := X.suite a pn) (W := W0) D0 (ok.suite a pn) tp hh) fun D σ H q => ?_
      simp only [evS] at q
      exact hand_imp hm xk (fun c d fc fd C D h1 h2 h3 h4 => (ok.mo.isa c d fc fd C D h1 h2 h3 h4).1) q
    · cases h
  · cases h
theorem sndS : ∀ n, SndS Φ n ∧ SndSs Φ n
  | 0 => ⟨by intro Γ X W D0 st c ok tp h; simp [compS] at h, by intro Γ X W D0 st c ok tp h; simp [compSs] at h⟩
  | n + 1 => ⟨by intro Γ X W D0 st c ok tp h; exact s_s (sndS n).1 (sndS n).2 ok tp h, by intro Γ X W D0 st c ok tp h; exact s_ss (sndS n).1 (sndS n).2 ok tp h⟩
end
end VL

set_option maxHeartbeats 4000000
namespace VL
open PySem PySem.Spec PyProof.Rows L2

/-! ### defs -/
section
variable {P : Program} {w : World} {K : PySem.W.Frag} {mg : Str → Option Value} {base : Heap}
theorem outs_is : ∀ {md : List Md} {ts : List T} {k : Nat} {env : En} {outs : List T}, outsOf env k md ts = some outs → outs.length = ts.length ∧ md.length = ts.length ∧
    ∀ (j : Nat) (m : Md) (t : T), md[j]? = some m → outs[j]? = some t → (m = .io → env[k + j]? = some (some (.io, t))) ∧ (m ≠ .io → ts[j]? = some t)
  | [], [], k, env, outs, h => by
    cases h
    exact ⟨rfl, rfl, fun j m t e => by simp at e⟩
  | m :: ms, t0 :: ts0, k, env, outs, h => by
    cases m with
    | io =>
      unfold outsOf at h
      dsimp only at h
      split at h
      · rename_i t ts e1 e2
        cases h
        obtain ⟨i1, i2, i3⟩ := outs_is e2
        refine ⟨by simp [i1], by simp [i2], fun j m u em eu => ?_⟩
        cases j with
        | zero => simp at em eu; subst em; subst eu; exact ⟨fun _ => e1, fun z => absurd rfl z⟩
        | succ j =>
          obtain ⟨q1, q2⟩ := i3 j m u (by simpa using em) (by simpa using eu)
          exact ⟨fun z => by rw [show k + (j + 1) = k + 1 + j by omega]; exact q1 z, fun z => by simpa using q2 z⟩
      · cases h
    | sh =>
      unfold outsOf at h
      dsimp only at h
      obtain ⟨ts, e2, z⟩ := Option.map_eq_some_iff.mp h
      subst z
      obtain ⟨i1, i2, i3⟩ := outs_is e2
      refine ⟨by simp [i1], by simp [i2], fun j m u em eu => ?_⟩
      cases j with
      | zero => simp at em eu; subst em; subst eu; exact ⟨(fun z => nomatch z), fun _ => rfl⟩
      | succ j =>
        obtain ⟨q1, q2⟩ := i3 j m u (by simpa using em) (by simpa using eu)
        exact ⟨fun z => by rw [show k + (j + 1) = k + 1 + j by omega]; exact q1 z, fun z => by simpa using q2 z⟩
    | bor =>
      unfold outsOf at h
      dsimp only at h
      obtain ⟨ts, e2, z⟩ := Option.map_eq_some_iff.mp h
      subst z
      obtain ⟨i1, i2, i3⟩ := outs_is e2
      refine ⟨by simp [i1], by simp [i2], fun j m u em eu => ?_⟩
      cases j with
      | zero => simp at em eu; subst em; subst eu; exact ⟨(fun z => nomatch z), fun _ => rfl⟩
      | succ j =>
        obtain ⟨q1, q2⟩ := i3 j m u (by simpa using em) (by simpa using eu)
        exact ⟨fun z => by rw [show k + (j + 1) = k + 1 + j by omega]; exact q1 z, fun z => by simpa using q2 z⟩
  | [], _ :: _, _, _, _, h => by simp [outsOf] at h
  | _ :: _, [], _, _, _, h => by simp [outsOf] at h
/-- the start of a def -/
theorem env0_get {n : Nat} {md : List Md} {ts : List T} {i : Nat} {f : Fl} {t : T} (h : (env0 n md ts)[i]? = some (some (f, t))) : (argE md ts)[i]? = some (some (f, t)) := by
  unfold env0 at h
  rw [List.getElem?_append] at h
  split at h
  · exact h
  · rw [List.getElem?_replicate] at h
    split at h <;> cases h
theorem env0_of {n : Nat} {md : List Md} {ts : List T} {i : Nat} {s : Slot} (h : (argE md ts)[i]? = some s) : (env0 n md ts)[i]? = some s := by
  show (argE md ts ++ _)[i]? = _
  rw [List.getElem?_append_left (get_lt h)]
  exact h
theorem start_of {N : List Str} {vs : List V} {i : Nat} {s : Option V} (h : (vs.map some)[i]? = some s) : (L2.start N vs)[i]? = some s := by
  unfold L2.start
  rw [List.getElem?_append_left (get_lt h)]
  exact h
theorem start_back {N : List Str} {vs : List V} {i : Nat} {v : V} (h : (L2.start N vs)[i]? = some (some v)) : (vs.map some)[i]? = some (some v) := by
  unfold L2.start at h
  rw [List.getElem?_append] at h
  split at h
  · exact h
  · rw [List.getElem?_replicate] at h
    split at h <;> cases h
theorem argE_length {md : List Md} {ts : List T} : (argE md ts).length = min md.length ts.length := by simp [argE]
/-- the def's own state and its caller's view of it: the same tracked slots -/
theorem start_sr {D0 : Addr → Prop} {H : Hp} {N : List Str} {n : Nat} {md : List Md} {ts : List T} {vs : List V} (hn : n = N.length) (hv : vs.length = ts.length) (hm : md.length = ts.length) (hl : ts.length ≤ n) (R : SR K mg D0 H (argE md ts) (vs.map some)) : SR K mg D0 H (env0 n md ts) (L2.start N vs) := by
  have tr : SameTr (argE md ts) (vs.map some) (env0 n md ts) (L2.start N vs) := fun i f t hf => by
    constructor
    · intro e
      have e' := env0_get e
      obtain ⟨a, sa, _⟩ := R.top i f t e' hf
      exact ⟨e', by rw [sa]; exact start_of sa⟩
    · intro e
      obtain ⟨a, sa, _⟩ := R.top i f t e hf
      exact ⟨env0_of e, by rw [sa]; exact start_of sa⟩
  refine tr.sr R ?_ fun i t e => ?_
  · simp only [env0, L2.start, List.length_append, List.length_map, List.length_zip, List.length_replicate]
    omega
  · obtain ⟨v, sv, r⟩ := R.sh i t (env0_get e)
    exact ⟨v, start_of sv, r⟩
theorem dofE {D0 : Addr → Prop} {md : List Md} {ts : List T} {σ : L2.St} {a : Addr} : Dof D0 (argE md ts) σ a ↔ D0 a := ⟨fun h => h.elim id fun z => absurd z argE_own, .inl⟩
theorem end_view {D0 D1 : Addr → Prop} {H H' : Hp} {N : List Str} {n : Nat} {md : List Md} {ts outs : List T} {vs : List V} {env' : En} {σ' : L2.St} (hv : vs.length = ts.length)
    (R : SR K mg D0 H (argE md ts) (vs.map some)) (S : Step (env0 n md ts) (L2.start N vs) H env' σ' H') (R' : SR K mg D1 H' env' σ') (ho : outsOf env' 0 md ts = some outs) (h01 : ∀ a, D0 a → D1 a) (h10 : ∀ a, D1 a → D0 a ∨ H a = none) :
    outs.length = ts.length ∧ Step (argE md ts) (vs.map some) H (argE md outs) (vs.map some) H' ∧ SR K mg D1 H' (argE md outs) (vs.map some) := by
  obtain ⟨l1, l2, pt⟩ := outs_is ho
  have there : ∀ {i : Nat} {m : Md} {t : T}, md[i]? = some m → outs[i]? = some t → ∃ t0, ts[i]? = some t0 := fun {i m t} em eo => by
    have : i < ts.length := by rw [← l1]; exact get_lt eo
    exact ⟨ts[i], by simp [this]⟩
  have mu0 : ∀ a, mutA (env0 n md ts) (L2.start N vs) a → mutA (argE md ts) (vs.map some) a := fun a ⟨i, f, t, e, hf, s⟩ => ⟨i, f, t, env0_get e, hf, start_back s⟩
  have muD : ∀ a, mutA (argE md ts) (vs.map some) a → D0 a := fun a h => dofE.mp (R.mut h)
  have kp : ∀ a o, H a = some o → ¬ mutA (argE md ts) (vs.map some) a → H' a = some o := fun a o ha hn => S.keep a o ha fun z => hn (mu0 a z)
  refine ⟨l1, ⟨fun a o ha hn => kp a o ha hn, fun a h => absurd h argE_own, fun a h => .inl ?_, fun i f t e hf => ⟨rfl, ?_⟩, S.dom, fun a h => ?_⟩, ⟨?_, fun i t e => ?_, fun i f t e hf => ?_, fun i j f g t u a e1 e2 h1 h2 s1 s2 => ?_, R'.dom⟩⟩
  · obtain ⟨i, f, t, e, hf, s⟩ := h
    obtain ⟨m, em, eo, rfl⟩ := argE_get e
    obtain ⟨t0, e0⟩ := there em eo
    exact ⟨i, _, t0, argE_of em e0, hf, s⟩
  · obtain ⟨m, em, et, rfl⟩ := argE_get e
    have : i < outs.length := by rw [l1]; exact get_lt et
    exact ⟨outs[i], argE_of em (by simp [this])⟩
  · obtain ⟨i, f, t, e, hf, s⟩ := h
    obtain ⟨m, em, eo, rfl⟩ := argE_get e
    obtain ⟨t0, e0⟩ := there em eo
    exact ⟨i, _, t0, argE_of em e0, hf, s⟩
  · rw [argE_length, List.length_map, l1]; omega
  · obtain ⟨m, em, eo, ef⟩ := argE_get e
    cases m with
    | sh =>
      obtain ⟨_, q⟩ := pt i .sh t em eo
      obtain ⟨v, sv, r⟩ := R.sh i t (argE_of (m := .sh) em (q (by decide)))
      exact ⟨v, sv, r.mono (fun a o ha hn => kp a o ha fun z => hn (.inl (muD a z))) fun a z => (h10 a (dofE.mp z)).imp .inl id⟩
    | bor => cases ef
    | io => cases ef
  · obtain ⟨m, em, eo, rfl⟩ := argE_get e
    cases m with
    | sh => exact absurd rfl hf
    | bor =>
      obtain ⟨_, q⟩ := pt i .bor t em eo
      obtain ⟨a, sa, r, c1, c2⟩ := R.top i .bor t (argE_of (m := .bor) em (q (by decide))) (by decide)
      obtain ⟨o, hao⟩ := r.there
      have hk : H' a = H a := by
        rw [hao]
        refine kp a o hao fun ⟨j, g, u, ej, hg, sj⟩ => ?_
        have := R.inj i j .bor g t u a (argE_of (m := .bor) em (q (by decide))) ej (by decide) (by rcases hg with rfl | rfl <;> decide) sa sj
        subst this
        rw [argE_of (m := .bor) em (q (by decide))] at ej
        cases ej
        rcases hg with z | z <;> cases z
      exact ⟨a, sa, r.mono (fun a o ha hn => kp a o ha fun z => hn (.inl (muD a z))) (fun a z => (h10 a (dofE.mp z)).imp .inl id) hk, (fun z => by rcases z with z | z <;> cases z), fun z => h01 a (c2 z)⟩
    | io =>
      obtain ⟨q, _⟩ := pt i .io t em eo
      have q := q rfl
      rw [Nat.zero_add] at q
      obtain ⟨t0, e0⟩ := there em eo
      obtain ⟨s1, _⟩ := S.par i .io t0 (env0_of (argE_of (m := .io) em e0)) (.inr (.inl rfl))
      obtain ⟨a, sa, r, c1, c2⟩ := R'.top i .io t q (by decide)
      rw [s1] at sa
      exact ⟨a, start_back sa, r.mono (fun _ _ h _ => h) (fun a z => .inl (.inl (dofE.mp z))) rfl, (fun z => by rcases z with z | z <;> cases z), c2⟩
  · obtain ⟨m1, em1, eo1, rfl⟩ := argE_get e1
    obtain ⟨m2, em2, eo2, rfl⟩ := argE_get e2
    obtain ⟨t1, et1⟩ := there em1 eo1
    obtain ⟨t2, et2⟩ := there em2 eo2
    exact R.inj i j _ _ t1 t2 a (argE_of em1 et1) (argE_of em2 et2) h1 h2 s1 s2
theorem ExcRep.less {D D' : Addr → Prop} {H : Hp} {x : T} {cls : Value} {d : Option Addr} (h : ExcRep K mg H D x cls d) (l : ∀ a, D' a → D a) : ExcRep K mg H D' x cls d := by
  obtain ⟨c, fn, fv, Ca, q1, q2, q3, q4⟩ := h
  exact ⟨c, fn, fv, Ca, q1, q2, q3, q4.imp id fun ⟨dd, ws, p1, p2, p3, p4, p5⟩ => ⟨dd, ws, p1, p2, fun z => p3 (l _ z), p4, p5.mono (fun _ _ h _ => h) fun b z => .inl (l b z)⟩⟩
/-- a def's body keeps the def's promise -/
theorem body_ok {Φ : Ft} {d : Df} {N : List Str} {vs : List V} {H : Hp} {Q : VK} {E : XK} (hn : d.nn = N.length) (hp : d.pk.length ≤ N.length) (h : FnSp K mg (Df.fn Φ d) vs H Q E) :
    ∃ D0, tS K mg D0 (fun cls d _ H => E cls d H) (evSs Φ d.body) { nx := fun _ H' => Q .non H', rt := Q } (L2.start N vs) H := by
  obtain ⟨md, ts, D0, e1, e2, e3, R, h⟩ := h
  have e1 : md.length = d.pk.length := e1
  have e2 : ts.length = d.pk.length := e2
  have e3 : vs.length = d.pk.length := e3
  have hv : vs.length = ts.length := e3.trans e2.symm
  refine ⟨D0, env0 d.nn md ts, start_sr hn hv (e1.trans e2.symm) (by omega) R, ?_⟩
  have er : (Df.fn Φ d).run md ts = (evSs Φ d.body (env0 d.nn md ts)).toF md ts := by
    show runDf Φ d md ts = _
    unfold runDf
    rw [if_pos ⟨e1, e2⟩]
  rw [er] at h
  cases ev : evSs Φ d.body (env0 d.nn md ts) with
  | stuck => rw [ev] at h; exact h
  | exc x env' =>
    rw [ev] at h
    unfold Res.toF at h
    dsimp only at h
    cases ho : outsOf env' 0 md ts with
    | none => rw [ho] at h; exact h.elim
    | some outs =>
      rw [ho] at h
      obtain ⟨_, h⟩ := h
      intro cls dd σ' H' S R' xr
      obtain ⟨_, S2, R2⟩ := end_view (D1 := D0) hv R S R' ho (fun _ h => h) (fun _ h => .inl h)
      exact h cls dd H' S2 R2 (xr.less fun a z => .inl (dofE.mp z))
  | ok f env' =>
    rw [ev] at h
    cases f with
    | brk => exact h.elim
    | next =>
      unfold Res.toF at h
      dsimp only at h
      cases ho : outsOf env' 0 md ts with
      | none => rw [ho] at h; exact h.elim
      | some outs =>
        rw [ho] at h
        obtain ⟨_, h⟩ := h
        intro σ' H' S R'
        obtain ⟨_, S2, R2⟩ := end_view (D1 := D0) hv R S R' ho (fun _ h => h) (fun _ h => .inl h)
        exact h .non H' S2 R2 .non
    | ret o =>
      unfold Res.toF at h
      dsimp only at h
      cases ho : outsOf env' 0 md ts with
      | none => rw [ho] at h; exact h.elim
      | some outs =>
        rw [ho] at h
        obtain ⟨_, h⟩ := h
        intro σ' H' S R' v hr
        obtain ⟨_, S2, R2⟩ := end_view (D1 := D0) hv R S R' ho (fun _ h => h) (fun _ h => .inl h)
        refine h v H' S2 R2 ?_
        cases o with
        | val t => exact hr.mono (fun _ _ h _ => h) fun a z => .inl (.inl (dofE.mp z))
        | own t =>
          obtain ⟨a, rfl, hna, Rx, rt⟩ := hr
          have hna : H a = none := hna.elim (fun ⟨i, f, t, e, hf, s⟩ => absurd ⟨i, f, t, env0_get e, hf, start_back s⟩ argE_own) id
          obtain ⟨_, _, R3⟩ := end_view (D1 := orA D0 a) hv R S Rx ho (fun _ h => .inl h) (fun b h => h.imp id fun z => by rw [z]; exact hna)
          exact ⟨a, rfl, hna, R3, rt.mono (fun _ _ h _ => h) (fun b z => .inl (.inl (dofE.mp z))) rfl⟩
/-- a def keeps its promise -/
theorem def_ok {Φ : Ft} {d : Df} {Γ : Ct} {x q0 : Str} {st : Stmt} {f : Addr} {fd : FuncData} {ps : List Str} {m k : Nat} (F : FunD K x q0 (defArgs st) (defBody st) (defScope st) [] [] f fd) (S : FnScope Γ.N ps (defScope st)) (hsc : Γ.sc = defScope st)
    (hc : compSs m Γ (defBody st) = some d.body) (hn : d.nn = Γ.N.length) (hp : d.pk.length = ps.length) (mo : ∀ A, Room k A → Mo P w K mg base A Γ Φ) : FnOk P w K mg base (L2.CX P w) (k + 1) f fd ps (FnSp K mg (Df.fn Φ d)) := by
  have hpl : ps.length ≤ Γ.N.length := by have := congrArg List.length S.pre; rw [List.length_take] at this; omega
  refine F.ok S (fun vs H Q E h => ?_) fun cdv A outer s H vs Q E hr h => ?_
  · obtain ⟨md, ts, D0, _, _, e3, _⟩ := h
    exact e3.trans hp
  · obtain ⟨D0, q⟩ := body_ok (N := Γ.N) hn (by omega) h
    refine ⟨_, (sndS m).2 D0 ?_ ⟨rfl, rfl, rfl⟩ hc, q⟩
    refine ⟨rfl, hsc.symm, S.kind, S.nd, fun _ => rfl, ?_, takes_of rfl rfl rfl rfl, passes_of rfl, fun _ _ => rfl, mo _ hr⟩
    have := hr.un
    show (A.deeper (envOfC q0 (defScope st) s.heap.objs.size f cdv)).units + 64 < cLine
    omega
/-- the same where an exception is handled -/
theorem def_okQ {Φ : Ft} {d : Df} {Γ : Ct} {x q0 : Str} {st : Stmt} {f : Addr} {fd : FuncData} {ps : List Str} {m k : Nat} (F : FunD K x q0 (defArgs st) (defBody st) (defScope st) [] [] f fd) (S : FnScope Γ.N ps (defScope st)) (hsc : Γ.sc = defScope st) (hh : Γ.hot = true)
    (hc : compSs m Γ (defBody st) = some d.body) (hn : d.nn = Γ.N.length) (hp : d.pk.length = ps.length) (mo : ∀ A, RoomQ k A → Mo P w K mg base A Γ Φ) : FnQ P w K mg base (L2.CX P w) (k + 1) f fd ps (FnSp K mg (Df.fn Φ d)) := by
  have hpl : ps.length ≤ Γ.N.length := by have := congrArg List.length S.pre; rw [List.length_take] at this; omega
  refine fnq_of F S (fun vs H Q E h => ?_) fun cdv A outer s H vs Q E hr h => ?_
  · obtain ⟨md, ts, D0, _, _, e3, _⟩ := h
    exact e3.trans hp
  · obtain ⟨D0, q⟩ := body_ok (N := Γ.N) hn (by omega) h
    refine ⟨_, (sndS m).2 D0 ?_ ⟨rfl, rfl, rfl⟩ hc, q⟩
    refine ⟨rfl, hsc.symm, S.kind, S.nd, fun z => Bool.noConfusion (hh.symm.trans z), ?_, takes_of rfl rfl rfl rfl, passes_of rfl, fun _ _ => rfl, mo _ hr⟩
    have := hr.uq
    show (A.deeper (envOfC q0 (defScope st) s.heap.objs.size f cdv)).units + 64 < cLine
    omega
end
end VL

set_option maxHeartbeats 4000000
namespace VL
open PySem PySem.Spec PyProof.Rows L2

/-! ### a module's defs in a row, the latest first -/
/-- a def of the module; a method of the class c; the class nm, whose __init__ lays these fields -/
inductive Ek where
  | fn | meth (c : Str) | cls (fs : List Str) | xcl (fs sup : List Str) | rcf (n : Nat)
structure Dx where
  nm : Str
  st : Stmt
  N : List Str
  ps : List Str
  tk : Bool
  d : Df
  ws : List (Nat × List Nat) := []
  kd : Ek := .fn
  qual : Str := nm
  sup : List Str := []
  hot : Bool := false
def fnNm : List Dx → List Str
  | [] => []
  | e :: r => match e.kd with
    | .fn => e.nm :: fnNm r
    | .rcf _ => e.nm :: fnNm r
    | _ => fnNm r
def clNm : List Dx → List Str
  | [] => []
  | e :: r => match e.kd with
    | .cls _ => e.nm :: clNm r
    | _ => clNm r
def meNm : List Dx → List Str
  | [] => []
  | e :: r => match e.kd with
    | .meth _ => e.nm :: meNm r
    | _ => meNm r
def exNm : List Dx → List Str
  | [] => []
  | e :: r => match e.kd with
    | .xcl _ _ => e.nm :: exNm r
    | _ => exNm r
/-- defs that may be called where an exception is handled -/
def hfNm : List Dx → List Str
  | [] => []
  | e :: r => match e.kd with
    | .fn => if e.hot then e.nm :: hfNm r else (hfNm r).filter fun x => x != e.nm
    | .rcf _ => (hfNm r).filter fun x => x != e.nm
    | _ => hfNm r
structure Mi where
  gl : Str → Option T
def ctOf (gl : Mi) (rest : List Dx) (e : Dx) : Ct := ⟨e.N, defScope e.st, e.tk, fun _ => true, gl.gl, (match e.kd with | .rcf _ => e.nm :: fnNm rest | _ => fnNm rest), clNm rest, meNm rest, exNm rest, fun l => (e.ws.lookup l).getD [], (match e.kd with | .rcf _ => [] | _ => hfNm rest), false⟩
def ft0 : Ft := ⟨fun _ => none, fun _ => none, fun _ _ => none, fun _ => none, fun _ _ => false, fun _ _ => false, fun _ _ => false⟩
/-- a def that calls itself, to a depth -/
noncomputable def recF (Φ : Ft) (nm : Str) (d : Df) : Nat → Ft
  | 0 => Φ
  | n + 1 => { Φ with fn := fun x => if x = nm then some (Df.fn (recF Φ nm d n) d) else Φ.fn x }
theorem recF_ex (Φ : Ft) (nm : Str) (d : Df) (n : Nat) : (recF Φ nm d n).ex = Φ.ex ∧ (recF Φ nm d n).isa = Φ.isa := by cases n <;> exact ⟨rfl, rfl⟩
theorem recF_cl (Φ : Ft) (nm : Str) (d : Df) (n : Nat) : (recF Φ nm d n).mkf = Φ.mkf ∧ (recF Φ nm d n).cis = Φ.cis := by cases n <;> exact ⟨rfl, rfl⟩
def wt : List Dx → Nat
  | [] => 0
  | e :: r => match e.kd with
    | .rcf n => wt r + n + 2
    | _ => wt r + 1
theorem wt_lt (e : Dx) (r : List Dx) : wt r + 1 ≤ wt (e :: r) := by
  show _ ≤ (match e.kd with | .rcf n => wt r + n + 2 | _ => wt r + 1)
  split <;> omega
noncomputable def phi : List Dx → Ft
  | [] => ft0
  | e :: rest => match e.kd with
    | .fn => { phi rest with fn := fun x => if x = e.nm then some (Df.fn (phi rest) e.d) else (phi rest).fn x }
    | .meth c => { phi rest with me := fun c' m => if c' = c ∧ m = e.nm then some (Df.fn (phi rest) e.d) else (phi rest).me c' m }
    | .cls fs => { phi rest with mkf := fun c => if c = e.nm then some fs else (phi rest).mkf c, kn := fun c f => (decide (c = e.nm) && decide (f ∈ fs)) || (phi rest).kn c f, cis := fun c d => if c = e.nm then decide (d ∈ e.sup) else (phi rest).cis c d }
    | .rcf n => recF (phi rest) e.nm e.d (n + 1)
    | .xcl fs sup => { phi rest with ex := fun c => if c = e.nm then some fs else (phi rest).ex c, isa := fun c d => if c = e.nm then decide (d ∈ sup) else (phi rest).isa c d }
theorem phi_xat : ∀ {l : List Dx} {x : Str} {fs : List Str}, (phi l).ex x = some fs → ∃ e ∈ l, ∃ sup, e.nm = x ∧ e.kd = .xcl fs sup ∧ ∀ d, (phi l).isa x d = decide (d ∈ sup)
  | [], x, fs, h => by cases h
  | e :: rest, x, fs, h => by
    unfold phi at h
    cases hk : e.kd with
    | fn =>
      rw [hk] at h
      obtain ⟨e', h1, sup, h2, h3, h4⟩ := phi_xat (l := rest) h
      refine ⟨e', List.mem_cons_of_mem _ h1, sup, h2, h3, fun d => ?_⟩
      unfold phi; rw [hk]; exact h4 d
    | meth c =>
      rw [hk] at h
      obtain ⟨e', h1, sup, h2, h3, h4⟩ := phi_xat (l := rest) h
      refine ⟨e', List.mem_cons_of_mem _ h1, sup, h2, h3, fun d => ?_⟩
      unfold phi; rw [hk]; exact h4 d
    | cls c =>
      rw [hk] at h
      obtain ⟨e', h1, sup, h2, h3, h4⟩ := phi_xat (l := rest) h
      refine ⟨e', List.mem_cons_of_mem _ h1, sup, h2, h3, fun d => ?_⟩
      unfold phi; rw [hk]; exact h4 d
    | rcf n =>
      rw [hk] at h
      obtain ⟨e', h1, sup, h2, h3, h4⟩ := phi_xat (l := rest) h
      refine ⟨e', List.mem_cons_of_mem _ h1, sup, h2, h3, fun d => ?_⟩
      unfold phi; rw [hk]; exact h4 d
    | xcl fs' sup' =>
      rw [hk] at h
      have h : (if x = e.nm then some fs' else (phi rest).ex x) = some fs := h
      split at h
      · rename_i hx
        cases h
        refine ⟨e, List.mem_cons_self, sup', hx.symm, hk, fun d => ?_⟩
        unfold phi; rw [hk]
        show (if x = e.nm then _ else _) = _
        rw [if_pos hx]
      · rename_i hx
        obtain ⟨e', h1, sup, h2, h3, h4⟩ := phi_xat (l := rest) h
        refine ⟨e', List.mem_cons_of_mem _ h1, sup, h2, h3, fun d => ?_⟩
        unfold phi; rw [hk]
        show (if x = e.nm then _ else _) = _
        rw [if_neg hx]
        exact h4 d
theorem phi_exs : ∀ {l : List Dx} {x : Str}, x ∈ exNm l → ((phi l).ex x).isSome = true
  | [], x, h => by cases h
  | e :: rest, x, h => by
    unfold exNm at h
    unfold phi
    cases hk : e.kd with
    | fn => rw [hk] at h; exact phi_exs (l := rest) h
    | meth c => rw [hk] at h; exact phi_exs (l := rest) h
    | cls c => rw [hk] at h; exact phi_exs (l := rest) h
    | rcf n => rw [hk] at h; exact phi_exs (l := rest) h
    | xcl fs sup =>
      rw [hk] at h
      show (if x = e.nm then some fs else (phi rest).ex x).isSome = true
      split
      · rfl
      · rename_i hx
        exact phi_exs ((List.mem_cons.mp h).resolve_left hx)
theorem phi_cat : ∀ {l : List Dx} {x : Str} {fs : List Str}, (phi l).mkf x = some fs → ∃ e ∈ l, e.nm = x ∧ e.kd = .cls fs ∧ ∀ d, (phi l).cis x d = decide (d ∈ e.sup)
  | [], x, fs, h => by cases h
  | e :: rest, x, fs, h => by
    unfold phi at h
    cases hk : e.kd with
    | cls fs' =>
      rw [hk] at h
      have h : (if x = e.nm then some fs' else (phi rest).mkf x) = some fs := h
      split at h
      · rename_i hx
        cases h
        refine ⟨e, List.mem_cons_self, hx.symm, hk, fun d => ?_⟩
        unfold phi; rw [hk]
        show (if x = e.nm then _ else _) = _
        rw [if_pos hx]
      · rename_i hx
        obtain ⟨e', h1, h2, h3, h4⟩ := phi_cat (l := rest) h
        refine ⟨e', List.mem_cons_of_mem _ h1, h2, h3, fun d => ?_⟩
        unfold phi; rw [hk]
        show (if x = e.nm then _ else _) = _
        rw [if_neg hx]
        exact h4 d
    | fn =>
      rw [hk] at h
      obtain ⟨e', h1, h2, h3, h4⟩ := phi_cat (l := rest) h
      exact ⟨e', List.mem_cons_of_mem _ h1, h2, h3, fun d => by unfold phi; rw [hk]; exact h4 d⟩
    | meth c =>
      rw [hk] at h
      obtain ⟨e', h1, h2, h3, h4⟩ := phi_cat (l := rest) h
      exact ⟨e', List.mem_cons_of_mem _ h1, h2, h3, fun d => by unfold phi; rw [hk]; exact h4 d⟩
    | xcl fs' sup' =>
      rw [hk] at h
      obtain ⟨e', h1, h2, h3, h4⟩ := phi_cat (l := rest) h
      exact ⟨e', List.mem_cons_of_mem _ h1, h2, h3, fun d => by unfold phi; rw [hk]; exact h4 d⟩
    | rcf n =>
      rw [hk] at h
      obtain ⟨e', h1, h2, h3, h4⟩ := phi_cat (l := rest) h
      exact ⟨e', List.mem_cons_of_mem _ h1, h2, h3, fun d => by unfold phi; rw [hk]; exact h4 d⟩
theorem phi_mks : ∀ {l : List Dx} {x : Str}, x ∈ clNm l → ((phi l).mkf x).isSome = true
  | [], x, h => by cases h
  | e :: rest, x, h => by
    unfold clNm at h
    unfold phi
    cases hk : e.kd with
    | fn => rw [hk] at h; exact phi_mks (l := rest) h
    | meth c => rw [hk] at h; exact phi_mks (l := rest) h
    | rcf n => rw [hk] at h; exact phi_mks (l := rest) h
    | xcl fs sup => rw [hk] at h; exact phi_mks (l := rest) h
    | cls fs =>
      rw [hk] at h
      show (if x = e.nm then some fs else (phi rest).mkf x).isSome = true
      split
      · rfl
      · rename_i hx
        exact phi_mks ((List.mem_cons.mp h).resolve_left hx)
/-- which of the own classes is under which -/
def CPair (K : PySem.W.Frag) (mg : Str → Option Value) (l : List Dx) : Prop := ∀ e ∈ l, ∀ e' ∈ l, ∀ fs fs', e.kd = .cls fs → e'.kd = .cls fs' → ∀ C D, mg e.nm = some (.ref C) → mg e'.nm = some (.ref D) →
  Cls K C ∧ InsT K C ∧ PySem.W.kitOne K (.ref C) (.ref D) = some (decide (e'.nm ∈ e.sup))
/-- which exception class is under which -/
def XPairE (K : PySem.W.Frag) (mg : Str → Option Value) (l : List Dx) : Prop := ∀ e ∈ l, ∀ e' ∈ l, ∀ fs sup fs' sup', e.kd = .xcl fs sup → e'.kd = .xcl fs' sup' → ∀ C D, mg e.nm = some (.ref C) → mg e'.nm = some (.ref D) →
  PySem.W.subIn K (.ref C) (.ref D) = some (decide (e'.nm ∈ sup)) ∧ PySem.W.kitOne K (.ref C) (.ref D) = some (decide (e'.nm ∈ sup))
def XPair (K : PySem.W.Frag) (mg : Str → Option Value) (l : List Dx) : Prop := XPairE K mg l ∧ CPair K mg l
theorem XPair.tail {K : PySem.W.Frag} {mg : Str → Option Value} {e : Dx} {l : List Dx} (h : XPair K mg (e :: l)) : XPair K mg l :=
  ⟨fun a ha b hb => h.1 a (List.mem_cons_of_mem _ ha) b (List.mem_cons_of_mem _ hb), fun a ha b hb => h.2 a (List.mem_cons_of_mem _ ha) b (List.mem_cons_of_mem _ hb)⟩
theorem XPair.isa {K : PySem.W.Frag} {mg : Str → Option Value} {l : List Dx} (h : XPair K mg l) (c d : Str) (fc fd : List Str) (C D : Addr) (hc : (phi l).ex c = some fc) (hd : (phi l).ex d = some fd) (mc : mg c = some (.ref C)) (md : mg d = some (.ref D)) :
    PySem.W.subIn K (.ref C) (.ref D) = some ((phi l).isa c d) ∧ PySem.W.kitOne K (.ref C) (.ref D) = some ((phi l).isa c d) := by
  obtain ⟨e, he, sup, rfl, hk, hi⟩ := phi_xat hc
  obtain ⟨e', he', sup', rfl, hk', _⟩ := phi_xat hd
  rw [hi]
  exact h.1 e he e' he' _ _ _ _ hk hk' C D mc md
theorem XPair.cis {K : PySem.W.Frag} {mg : Str → Option Value} {l : List Dx} (h : XPair K mg l) (c d : Str) (fc fd : List Str) (C D : Addr) (hc : (phi l).mkf c = some fc) (hd : (phi l).mkf d = some fd) (mc : mg c = some (.ref C)) (md : mg d = some (.ref D)) :
    Cls K C ∧ InsT K C ∧ PySem.W.kitOne K (.ref C) (.ref D) = some ((phi l).cis c d) := by
  obtain ⟨e, he, rfl, hk, hi⟩ := phi_cat hc
  obtain ⟨e', he', rfl, hk', _⟩ := phi_cat hd
  rw [hi]
  exact h.2 e he e' he' _ _ hk hk' C D mc md
def Facts (P : Program) (w : World) (base : Heap) (K : PySem.W.Frag) (mg : Str → Option Value) (e : Dx) : Prop := match e.kd with
  | .fn => ∃ (f : Addr) (fd : FuncData), mg e.nm = some (.ref f) ∧ FunD K e.nm e.qual (defArgs e.st) (defBody e.st) (defScope e.st) [] [] f fd
  | .rcf _ => ∃ (f : Addr) (fd : FuncData), mg e.nm = some (.ref f) ∧ FunD K e.nm e.qual (defArgs e.st) (defBody e.st) (defScope e.st) [] [] f fd
  | .meth c => ∃ (C f : Addr) (fd : FuncData), mg c = some (.ref C) ∧ Cls K C ∧ Meth K C e.nm f ∧ FunD K e.nm e.qual (defArgs e.st) (defBody e.st) (defScope e.st) [] [] f fd
  | .cls fs => ∃ (C f : Addr) (fd : FuncData) (ps : List Str), mg e.nm = some (.ref C) ∧ Mk K C f ∧ Cls K C ∧ (∀ x ∈ fs, NoAttr K C x) ∧ Binds K fd ps [] ∧ FnOk P w K mg base (L2.CX P w) 2 f fd ps (InitSp C fs)
  | .xcl fs _ => ∃ C : Addr, mg e.nm = some (.ref C) ∧ XcK K C ∧ XcT K C ∧ (∀ f ∈ fs, PySem.W.findIn K (.ref C) f = some none) ∧ RaiseK P w K mg base 2 C fs
structure Chk (gl : Mi) (fuel : Nat) (rest : List Dx) (e : Dx) : Prop where
  sc : FnScope e.N e.ps (defScope e.st)
  co : compSs fuel (ctOf gl rest e) (defBody e.st) = some e.d.body
  nn : e.d.nn = e.N.length
  pk : e.d.pk.length = e.ps.length
  bi : ∀ (kV doc pm : Value) (an : Option Addr) (cdv ct : Value) (us : List Value), us.length = e.ps.length → bindArgs (PySem.W.fnOf e.nm e.qual (defArgs e.st) (defBody e.st) (defScope e.st) .none kV doc pm an cdv ct) ⟨us, []⟩ = pure (e.ps.zip us)
inductive Tab (gl : Mi) (fuel : Nat) : List Dx → Prop
  | nil : Tab gl fuel []
  | cons {e rest} : Chk gl fuel rest e → (match e.kd with | .cls _ => False | .xcl _ _ => False | _ => True) → (e.hot = true → compSs fuel { ctOf gl rest e with hot := true } (defBody e.st) = some e.d.body) → Tab gl fuel rest → Tab gl fuel (e :: rest)
  | cls {e rest fs} : e.kd = .cls fs → Tab gl fuel rest → Tab gl fuel (e :: rest)
  | xcl {e rest fs sup} : e.kd = .xcl fs sup → Tab gl fuel rest → Tab gl fuel (e :: rest)
section
variable {P : Program} {w : World} {K : PySem.W.Frag} {mg : Str → Option Value} {base : Heap} {gl : Mi} {fuel : Nat}
structure TabOk (P : Program) (w : World) (K : PySem.W.Frag) (mg : Str → Option Value) (base : Heap) (l : List Dx) : Prop where
  fq : ∀ x F, x ∈ hfNm l → (phi l).fn x = some F → ∃ (f : Addr) (fd : FuncData) (ps : List Str), mg x = some (.ref f) ∧ PySem.W.keepIn K (.ref f) = true ∧ Binds K fd ps [] ∧ FnQ P w K mg base (L2.CX P w) (wt l + 4) f fd ps (FnSp K mg F)
  fn : ∀ x F, (phi l).fn x = some F → ∃ (f : Addr) (fd : FuncData) (ps : List Str), mg x = some (.ref f) ∧ PySem.W.keepIn K (.ref f) = true ∧ Binds K fd ps [] ∧ FnOk P w K mg base (L2.CX P w) (wt l + 4) f fd ps (FnSp K mg F)
  me : ∀ c m F C, (phi l).me c m = some F → mg c = some (.ref C) → Cls K C ∧ ∃ (f : Addr) (fd : FuncData) (ps : List Str), Meth K C m f ∧ FnOk P w K mg base (L2.CX P w) (wt l + 4) f fd ps (FnSp K mg F) ∧ Binds K fd ps []
  mkc : ∀ c fn, (phi l).mkf c = some fn → ∃ (C f : Addr) (fd : FuncData) (ps : List Str), mg c = some (.ref C) ∧ Mk K C f ∧ FnOk P w K mg base (L2.CX P w) 2 f fd ps (InitSp C fn) ∧ Binds K fd ps []
  kn : ∀ c f C, (phi l).kn c f = true → mg c = some (.ref C) → Cls K C ∧ NoAttr K C f
  ex : ∀ x fs, (phi l).ex x = some fs → ∃ C : Addr, mg x = some (.ref C) ∧ XcK K C ∧ XcT K C ∧ (∀ f ∈ fs, PySem.W.findIn K (.ref C) f = some none) ∧ RaiseK P w K mg base 2 C fs
  isa : ∀ c d fc fd C D, (phi l).ex c = some fc → (phi l).ex d = some fd → mg c = some (.ref C) → mg d = some (.ref D) → PySem.W.subIn K (.ref C) (.ref D) = some ((phi l).isa c d) ∧ PySem.W.kitOne K (.ref C) (.ref D) = some ((phi l).isa c d)
  cis : ∀ c d fc fd C D, (phi l).mkf c = some fc → (phi l).mkf d = some fd → mg c = some (.ref C) → mg d = some (.ref D) → Cls K C ∧ InsT K C ∧ PySem.W.kitOne K (.ref C) (.ref D) = some ((phi l).cis c d)
theorem TabOk.mo {l : List Dx} {A : Around} {e : Dx} (bl : ∀ x, x ∈ bnames → mg x = none) (hgl : ∀ x t, gl.gl x = some t → ∃ u v, mg x = some u ∧ RelV v u ∧ ∀ H D, Rep K mg H D t v) (t : TabOk P w K mg base l) (hr : Room (wt l + 4) A) : Mo P w K mg base A (ctOf gl l e) (phi l) where
  bl := bl
  gl := hgl
  fn := fun x F _ _ hx => by
    obtain ⟨f, fd, ps, h1, h2, h3, h4⟩ := t.fn x F hx
    exact ⟨f, fd, ps, _, h1, h2, h3, h4, hr⟩
  fq := fun x F hh hx => by
    have hh : x ∈ hfNm l := by
      have hh : x ∈ (match e.kd with | .rcf _ => [] | _ => hfNm l) := hh
      split at hh
      · cases hh
      · exact hh
    obtain ⟨f, fd, ps, h1, h2, h3, h4⟩ := t.fq x F hh hx
    exact ⟨f, fd, ps, _, h1, h2, h3, h4, .of hr⟩
  mkc := fun c fn _ _ h => by
    obtain ⟨C, f, fd, ps, h1, h2, h3, h4⟩ := t.mkc c fn h
    exact ⟨C, f, fd, ps, 2, h1, h2, h3, hr.mono (by omega), h4⟩
  kn := t.kn
  me := fun c m F C _ h hc => by
    obtain ⟨h1, f, fd, ps, h2, h3, h4⟩ := t.me c m F C h hc
    exact ⟨h1, f, fd, ps, _, h2, h3, h4, hr⟩
  ex := fun x fs h => let ⟨C, h1, h2, h3, h4, h5⟩ := t.ex x fs h; ⟨C, 2, h1, h2, h3, h4, h5, fun _ => hr.mono (by omega)⟩
  exs := fun x h => phi_exs h
  isa := t.isa
  cis := t.cis
  mks := fun x h => phi_mks h
theorem TabOk.moQ {l : List Dx} {A : Around} {e : Dx} (bl : ∀ x, x ∈ bnames → mg x = none) (hgl : ∀ x t, gl.gl x = some t → ∃ u v, mg x = some u ∧ RelV v u ∧ ∀ H D, Rep K mg H D t v) (t : TabOk P w K mg base l) (hr : RoomQ (wt l + 4) A) : Mo P w K mg base A { ctOf gl l e with hot := true } (phi l) where
  bl := bl
  gl := hgl
  fn := fun _ _ _ z => Bool.noConfusion (show true = false from z)
  fq := fun x F hh hx => by
    have hh : x ∈ hfNm l := by
      have hh : x ∈ (match e.kd with | .rcf _ => [] | _ => hfNm l) := hh
      split at hh
      · cases hh
      · exact hh
    obtain ⟨f, fd, ps, h1, h2, h3, h4⟩ := t.fq x F hh hx
    exact ⟨f, fd, ps, _, h1, h2, h3, h4, hr⟩
  mkc := fun _ _ _ z => Bool.noConfusion (show true = false from z)
  kn := t.kn
  me := fun _ _ _ _ z => Bool.noConfusion (show true = false from z)
  ex := fun x fs h => let ⟨C, h1, h2, h3, h4, h5⟩ := t.ex x fs h; ⟨C, 2, h1, h2, h3, h4, h5, fun z => Bool.noConfusion (show true = false from z)⟩
  exs := fun x h => phi_exs h
  isa := t.isa
  cis := t.cis
  mks := fun x h => phi_mks h
theorem tab_fn (bl : ∀ x, x ∈ bnames → mg x = none) (hgl : ∀ x t, gl.gl x = some t → ∃ u v, mg x = some u ∧ RelV v u ∧ ∀ H D, Rep K mg H D t v) : ∀ {l : List Dx}, Tab gl fuel l → (∀ e ∈ l, Facts P w base K mg e) → XPair K mg l →
    TabOk P w K mg base l ∧
    (∀ e rest, l = e :: rest → e.kd = .fn → ∀ f fd, mg e.nm = some (.ref f) → FunD K e.nm e.qual (defArgs e.st) (defBody e.st) (defScope e.st) [] [] f fd → FnOk P w K mg base (L2.CX P w) (wt l + 4) f fd e.ps (FnSp K mg (Df.fn (phi rest) e.d)))
  | [], _, _, _ => ⟨⟨fun x F h => (by cases h), fun x F h => (by cases h), fun c m F C h => (by cases h), fun c fn h => (by cases h), fun c f C h => (by cases h), fun x fs h => (by cases h), fun c d fc fd C D h => (by cases h), fun c d fc fd C D h => (by cases h)⟩, fun e rest h => (by cases h)⟩
  | e :: rest, .xcl (fs := fs) (sup := sup) hk t, hf, hx => by
    obtain ⟨ih, _⟩ := tab_fn bl hgl t (fun e he => hf e (List.mem_cons_of_mem _ he)) hx.tail
    have fe := hf e List.mem_cons_self
    unfold Facts at fe
    rw [hk] at fe
    have hp : phi (e :: rest) = { phi rest with ex := fun c => if c = e.nm then some fs else (phi rest).ex c, isa := fun c d => if c = e.nm then decide (d ∈ sup) else (phi rest).isa c d } := by
      show (match e.kd with | .fn => _ | .meth c => _ | .cls fs => _ | .rcf n => _ | .xcl fs sup => _) = _
      rw [hk]
    have fqL : ∀ x F, x ∈ hfNm (e :: rest) → (phi (e :: rest)).fn x = some F → ∃ (f : Addr) (fd : FuncData) (ps : List Str), mg x = some (.ref f) ∧ PySem.W.keepIn K (.ref f) = true ∧ Binds K fd ps [] ∧ FnQ P w K mg base (L2.CX P w) (wt (e :: rest) + 4) f fd ps (FnSp K mg F) := fun x F hh h => by
      rw [hp] at h
      unfold hfNm at hh
      rw [hk] at hh
      obtain ⟨f, fd, ps, h1, h2, h3, h4⟩ := ih.fq x F hh h
      exact ⟨f, fd, ps, h1, h2, h3, h4.mono (by have := wt_lt e rest; omega)⟩
    refine ⟨⟨fun x F hh h => fqL x F hh h, fun x F h => ?_, fun c m F C h hc => ?_, fun c fn h => ?_, fun c f C' h hc => ?_, fun x fs' h => ?_, XPair.isa hx, XPair.cis hx⟩, fun e' rest' z hk' => by cases z; rw [hk] at hk'; cases hk'⟩
    · rw [hp] at h
      obtain ⟨f, fd, ps, h1, h2, h3, h4⟩ := ih.fn x F h
      exact ⟨f, fd, ps, h1, h2, h3, h4.mono (by have := wt_lt e rest; omega)⟩
    · rw [hp] at h
      obtain ⟨h1, f, fd, ps, h2, h3, h4⟩ := ih.me c m F C h hc
      exact ⟨h1, f, fd, ps, h2, h3.mono (by have := wt_lt e rest; omega), h4⟩
    · rw [hp] at h; exact ih.mkc c fn h
    · rw [hp] at h; exact ih.kn c f C' h hc
    · rw [hp] at h
      have h : (if x = e.nm then some fs else (phi rest).ex x) = some fs' := h
      split at h
      · rename_i hxe
        cases h
        subst hxe
        exact fe
      · exact ih.ex x fs' h
  | e :: rest, .cls (fs := fs) hk t, hf, hx => by
    obtain ⟨ih, _⟩ := tab_fn bl hgl t (fun e he => hf e (List.mem_cons_of_mem _ he)) hx.tail
    have fe := hf e List.mem_cons_self
    unfold Facts at fe
    rw [hk] at fe
    obtain ⟨C, f, fd, ps, h1, h2, h3, h4, h5, h6⟩ := fe
    have hp : phi (e :: rest) = { phi rest with mkf := fun c => if c = e.nm then some fs else (phi rest).mkf c, kn := fun c f => (decide (c = e.nm) && decide (f ∈ fs)) || (phi rest).kn c f, cis := fun c d => if c = e.nm then decide (d ∈ e.sup) else (phi rest).cis c d } := by
      show (match e.kd with | .fn => _ | .meth c => _ | .cls fs => _ | .rcf n => _ | .xcl fs sup => _) = _
      rw [hk]
    have fqL : ∀ x F, x ∈ hfNm (e :: rest) → (phi (e :: rest)).fn x = some F → ∃ (f : Addr) (fd : FuncData) (ps : List Str), mg x = some (.ref f) ∧ PySem.W.keepIn K (.ref f) = true ∧ Binds K fd ps [] ∧ FnQ P w K mg base (L2.CX P w) (wt (e :: rest) + 4) f fd ps (FnSp K mg F) := fun x F hh h => by
      rw [hp] at h
      unfold hfNm at hh
      rw [hk] at hh
      obtain ⟨f, fd, ps, h1, h2, h3, h4⟩ := ih.fq x F hh h
      exact ⟨f, fd, ps, h1, h2, h3, h4.mono (by have := wt_lt e rest; omega)⟩
    refine ⟨⟨fun x F hh h => fqL x F hh h, fun x F h => ?_, fun c m F C h hc => ?_, fun c fn h => ?_, fun c f C' h hc => ?_, fun x fs' h => ?_, XPair.isa hx, XPair.cis hx⟩, fun e' rest' z hk' => by cases z; rw [hk] at hk'; cases hk'⟩
    rotate_right
    · rw [hp] at h; exact ih.ex x fs' h
    · rw [hp] at h
      obtain ⟨f, fd, ps, h1, h2, h3, h4⟩ := ih.fn x F h
      exact ⟨f, fd, ps, h1, h2, h3, h4.mono (by have := wt_lt e rest; omega)⟩
    · rw [hp] at h
      obtain ⟨h1, f, fd, ps, h2, h3, h4⟩ := ih.me c m F C h hc
      exact ⟨h1, f, fd, ps, h2, h3.mono (by have := wt_lt e rest; omega), h4⟩
    · rw [hp] at h
      have h : (if c = e.nm then some fs else (phi rest).mkf c) = some fn := h
      split at h
      · rename_i hc
        cases h
        subst hc
        exact ⟨C, f, fd, ps, h1, h2, h6, h5⟩
      · exact ih.mkc c fn h
    · rw [hp] at h
      have h : ((decide (c = e.nm) && decide (f ∈ fs)) || (phi rest).kn c f) = true := h
      rw [Bool.or_eq_true] at h
      rcases h with h | h
      · simp only [Bool.and_eq_true, decide_eq_true_eq] at h
        obtain ⟨rfl, hfs⟩ := h
        rw [h1] at hc
        cases hc
        exact ⟨h3, h4 f hfs⟩
      · exact ih.kn c f C' h hc
  | e :: rest, .cons c hk ch t, hf, hx => by
    obtain ⟨ih, _⟩ := tab_fn bl hgl t (fun e he => hf e (List.mem_cons_of_mem _ he)) hx.tail
    have ok : ∀ f fd, FunD K e.nm e.qual (defArgs e.st) (defBody e.st) (defScope e.st) [] [] f fd → FnOk P w K mg base (L2.CX P w) (wt rest + 4 + 1) f fd e.ps (FnSp K mg (Df.fn (phi rest) e.d)) := fun f fd F =>
      def_ok (Γ := ctOf gl rest e) F c.sc rfl c.co c.nn c.pk fun A hr => ih.mo bl hgl hr
    have fe := hf e List.mem_cons_self
    unfold Facts at fe
    have lift : TabOk P w K mg base rest → ∀ {n}, n = wt (e :: rest) + 4 → (∀ x F, (phi rest).fn x = some F → ∃ (f : Addr) (fd : FuncData) (ps : List Str), mg x = some (.ref f) ∧ PySem.W.keepIn K (.ref f) = true ∧ Binds K fd ps [] ∧ FnOk P w K mg base (L2.CX P w) n f fd ps (FnSp K mg F)) := fun ih n hn x F h => by
      obtain ⟨f, fd, ps, h1, h2, h3, h4⟩ := ih.fn x F h
      exact ⟨f, fd, ps, h1, h2, h3, h4.mono (by have := wt_lt e rest; omega)⟩
    cases hkd : e.kd with
    | cls fs => rw [hkd] at hk; exact hk.elim
    | xcl fs sup => rw [hkd] at hk; exact hk.elim
    | rcf n =>
      rw [hkd] at fe
      obtain ⟨f0, fd0, hm, F⟩ := fe
      have hw : wt (e :: rest) = wt rest + n + 2 := by
        show (match e.kd with | .rcf n => wt rest + n + 2 | _ => wt rest + 1) = _
        rw [hkd]
      have hp : phi (e :: rest) = recF (phi rest) e.nm e.d (n + 1) := by
        show (match e.kd with | .fn => _ | .meth c => _ | .cls fs => _ | .rcf n => _ | .xcl fs sup => _) = _
        rw [hkd]
      have fqL : ∀ x F, x ∈ hfNm (e :: rest) → (phi (e :: rest)).fn x = some F → ∃ (f : Addr) (fd : FuncData) (ps : List Str), mg x = some (.ref f) ∧ PySem.W.keepIn K (.ref f) = true ∧ Binds K fd ps [] ∧ FnQ P w K mg base (L2.CX P w) (wt (e :: rest) + 4) f fd ps (FnSp K mg F) := fun x F hh h => by
        rw [hp] at h
        unfold hfNm at hh
        rw [hkd] at hh
        obtain ⟨hh, hne⟩ := List.mem_filter.mp hh
        have h : (if x = e.nm then some (Df.fn (recF (phi rest) e.nm e.d n) e.d) else (phi rest).fn x) = some F := h
        rw [if_neg (by simpa using hne)] at h
        obtain ⟨f, fd, ps, h1, h2, h3, h4⟩ := ih.fq x F hh h
        exact ⟨f, fd, ps, h1, h2, h3, h4.mono (by have := wt_lt e rest; omega)⟩
      have lv : ∀ j, FnOk P w K mg base (L2.CX P w) (wt rest + 4 + j + 1) f0 fd0 e.ps (FnSp K mg (Df.fn (recF (phi rest) e.nm e.d j) e.d)) := fun j => by
        induction j with
        | zero => exact def_ok (Γ := ctOf gl rest e) F c.sc rfl c.co c.nn c.pk fun A hr => ih.mo bl hgl hr
        | succ j ihj =>
          refine def_ok (Γ := ctOf gl rest e) F c.sc rfl c.co c.nn c.pk fun A hr => ?_
          have m : Mo P w K mg base A (ctOf gl rest e) (phi rest) := ih.mo bl hgl (hr.mono (by omega))
          refine ⟨m.bl, m.gl, fun x G hx _ h => ?_, (fun x G hh h => by
            have hh : x ∈ (match e.kd with | .rcf _ => [] | _ => hfNm rest) := hh
            rw [hkd] at hh
            exact absurd hh (by simp)), m.mkc, m.kn, m.me, m.ex, m.exs, m.isa, m.cis, m.mks⟩
          have h : (if x = e.nm then some (Df.fn (recF (phi rest) e.nm e.d j) e.d) else (phi rest).fn x) = some G := h
          split at h
          · rename_i hxe
            cases h
            subst hxe
            exact ⟨f0, fd0, e.ps, _, hm, F.kp, F.bindsN c.bi, ihj, hr⟩
          · exact m.fn x G hx rfl h
      refine ⟨⟨fun x F hh h => fqL x F hh h, fun x G h => ?_, fun c m F C h hc => ?_, fun c fn h => ?_, fun c f C' h hc => ?_, fun x fs' h => ?_, XPair.isa hx, XPair.cis hx⟩, fun e' rest' z hk' f fd _ F => by cases z; rw [hkd] at hk'; cases hk'⟩
      rotate_right
      · rw [hp] at h; exact ih.ex x fs' h
      · rw [hp] at h
        have h : (if x = e.nm then some (Df.fn (recF (phi rest) e.nm e.d n) e.d) else (phi rest).fn x) = some G := h
        split at h
        · rename_i hx
          cases h
          subst hx
          exact ⟨f0, fd0, e.ps, hm, F.kp, F.bindsN c.bi, (lv n).mono (by omega)⟩
        · exact lift ih rfl x G h
      · rw [hp] at h
        obtain ⟨h1, f, fd, ps, h2, h3, h4⟩ := ih.me c m F C h hc
        exact ⟨h1, f, fd, ps, h2, h3.mono (by have := wt_lt e rest; omega), h4⟩
      · rw [hp] at h; exact ih.mkc c fn h
      · rw [hp] at h; exact ih.kn c f C' h hc
    | fn =>
      rw [hkd] at fe
      obtain ⟨f0, fd0, hm, F⟩ := fe
      have hp : phi (e :: rest) = { phi rest with fn := fun x => if x = e.nm then some (Df.fn (phi rest) e.d) else (phi rest).fn x } := by
        show (match e.kd with | .fn => _ | .meth c => _ | .cls fs => _ | .rcf n => _ | .xcl fs sup => _) = _
        rw [hkd]
      have fqL : ∀ x F, x ∈ hfNm (e :: rest) → (phi (e :: rest)).fn x = some F → ∃ (f : Addr) (fd : FuncData) (ps : List Str), mg x = some (.ref f) ∧ PySem.W.keepIn K (.ref f) = true ∧ Binds K fd ps [] ∧ FnQ P w K mg base (L2.CX P w) (wt (e :: rest) + 4) f fd ps (FnSp K mg F) := fun x G hh h => by
        rw [hp] at h
        unfold hfNm at hh
        rw [hkd] at hh
        have h : (if x = e.nm then some (Df.fn (phi rest) e.d) else (phi rest).fn x) = some G := h
        split at h
        · rename_i hxn
          cases h
          subst hxn
          have hot : e.hot = true := by
            cases q : e.hot with
            | true => rfl
            | false =>
              rw [q] at hh
              have := (List.mem_filter.mp hh).2
              simp at this
          exact ⟨f0, fd0, e.ps, hm, F.kp, F.bindsN c.bi, (def_okQ (Γ := { ctOf gl rest e with hot := true }) (k := wt rest + 4) F c.sc rfl rfl (ch hot) c.nn c.pk fun A hr => ih.moQ bl hgl hr).mono (by have := wt_lt e rest; omega)⟩
        · rename_i hxn
          have hh : x ∈ hfNm rest := by
            cases q : e.hot with
            | true => rw [q] at hh; exact (List.mem_cons.mp hh).resolve_left hxn
            | false => rw [q] at hh; exact (List.mem_filter.mp hh).1
          obtain ⟨f, fd, ps, h1, h2, h3, h4⟩ := ih.fq x G hh h
          exact ⟨f, fd, ps, h1, h2, h3, h4.mono (by have := wt_lt e rest; omega)⟩
      refine ⟨⟨fun x F hh h => fqL x F hh h, fun x G h => ?_, fun c m F C h hc => ?_, fun c fn h => ?_, fun c f C' h hc => ?_, fun x fs' h => ?_, XPair.isa hx, XPair.cis hx⟩, fun e' rest' z _ f fd _ F => by cases z; exact (ok f fd F).mono (by have := wt_lt e rest; omega)⟩
      rotate_right
      · rw [hp] at h; exact ih.ex x fs' h
      · rw [hp] at h
        have h : (if x = e.nm then some (Df.fn (phi rest) e.d) else (phi rest).fn x) = some G := h
        split at h
        · rename_i hx
          cases h
          subst hx
          exact ⟨f0, fd0, e.ps, hm, F.kp, F.bindsN c.bi, (ok f0 fd0 F).mono (by have := wt_lt e rest; omega)⟩
        · exact lift ih rfl x G h
      · rw [hp] at h
        obtain ⟨h1, f, fd, ps, h2, h3, h4⟩ := ih.me c m F C h hc
        exact ⟨h1, f, fd, ps, h2, h3.mono (by have := wt_lt e rest; omega), h4⟩
      · rw [hp] at h; exact ih.mkc c fn h
      · rw [hp] at h; exact ih.kn c f C' h hc
    | meth c0 =>
      rw [hkd] at fe
      obtain ⟨C0, f0, fd0, hm, hcl, hme, F⟩ := fe
      have hp : phi (e :: rest) = { phi rest with me := fun c' m => if c' = c0 ∧ m = e.nm then some (Df.fn (phi rest) e.d) else (phi rest).me c' m } := by
        show (match e.kd with | .fn => _ | .meth c => _ | .cls fs => _ | .rcf n => _ | .xcl fs sup => _) = _
        rw [hkd]
      have fqL : ∀ x F, x ∈ hfNm (e :: rest) → (phi (e :: rest)).fn x = some F → ∃ (f : Addr) (fd : FuncData) (ps : List Str), mg x = some (.ref f) ∧ PySem.W.keepIn K (.ref f) = true ∧ Binds K fd ps [] ∧ FnQ P w K mg base (L2.CX P w) (wt (e :: rest) + 4) f fd ps (FnSp K mg F) := fun x F hh h => by
        rw [hp] at h
        unfold hfNm at hh
        rw [hkd] at hh
        obtain ⟨f, fd, ps, h1, h2, h3, h4⟩ := ih.fq x F hh h
        exact ⟨f, fd, ps, h1, h2, h3, h4.mono (by have := wt_lt e rest; omega)⟩
      refine ⟨⟨fun x F hh h => fqL x F hh h, fun x G h => ?_, fun c' m G C h hc => ?_, fun c fn h => ?_, fun c f C' h hc => ?_, fun x fs' h => ?_, XPair.isa hx, XPair.cis hx⟩, fun e' rest' z hk' => by cases z; rw [hkd] at hk'; cases hk'⟩
      rotate_right
      · rw [hp] at h; exact ih.ex x fs' h
      · rw [hp] at h; exact lift ih rfl x G h
      · rw [hp] at h
        have h : (if c' = c0 ∧ m = e.nm then some (Df.fn (phi rest) e.d) else (phi rest).me c' m) = some G := h
        split at h
        · rename_i hx
          cases h
          obtain ⟨rfl, rfl⟩ := hx
          rw [hm] at hc
          cases hc
          exact ⟨hcl, f0, fd0, e.ps, hme, (ok f0 fd0 F).mono (by have := wt_lt e rest; omega), F.bindsN c.bi⟩
        · obtain ⟨h1, f, fd, ps, h2, h3, h4⟩ := ih.me c' m G C h hc
          exact ⟨h1, f, fd, ps, h2, h3.mono (by have := wt_lt e rest; omega), h4⟩
      · rw [hp] at h; exact ih.mkc c fn h
      · rw [hp] at h; exact ih.kn c f C' h hc
/-- the law's promise, from what its def tells -/
theorem law_sp {F : Fn} {ns : List Int} {H : Hp} {a : Addr} {o : List T} (hpk : F.pk.length = 1) (hS : SqL K H a (ns.map V.int)) (h : F.run [.sh] [.scr ns] = .ok (.val (.bl true)) o) (ho : o.length = 1) : FnSp K mg F [.ref a] H (fun v _ => v = .bl true) fun _ _ _ => False := by
  refine ⟨[.sh], [.scr ns], fun _ => False, hpk.symm, hpk.symm, hpk.symm, ⟨rfl, fun i t e => ?_, fun i f t e hf => ?_, fun i j f g t u b e1 e2 h1 h2 => ?_, fun _ z => z.elim⟩, ?_⟩
  · obtain ⟨m, em, et, _⟩ := argE_get e
    cases i with
    | zero =>
      cases et
      exact ⟨_, rfl, .scr (hS.imp (fun h => ⟨h, fun z => z.elim id argE_own⟩) id)⟩
    | succ i => simp at et
  · obtain ⟨m, em, et, rfl⟩ := argE_get e
    cases i with
    | zero => cases em; exact absurd rfl hf
    | succ i => simp at et
  · obtain ⟨m, em, et, rfl⟩ := argE_get e1
    cases i with
    | zero => cases em; exact absurd rfl h1
    | succ i => simp at et
  · rw [h]
    refine ⟨ho, fun v H' _ _ r => ?_⟩
    cases r
    rfl
/-! ### __init__ of the rules' classes -/
/-- self.f = p, of an instance of any class without the name f -/
def Init1 (K : PySem.W.Frag) (g : Str) : Sp := fun vs H Q _ => ∃ (a dx C : Addr) (v : V), vs = [.ref a, v] ∧ H a = some (.ins C dx []) ∧ Cls K C ∧ NoAttr K C g ∧ Q .non (upd H a (.ins C dx [(g, v)]))
theorem init1_ok {x q g p : Str} {st : Stmt} {f : Addr} {fd : FuncData} {p1 p2 p3 p4 : Pos} (F : FunD K x q (defArgs st) (defBody st) (defScope st) [] [] f fd) (S : FnScope ["self", p] ["self", p] (defScope st))
    (hb : defBody st = [.Assign [.Attribute (.Name "self" p1) g p2] (.Name p p3) p4]) (hp : (p == ("__debug__" : Str)) = false ∧ (p == ("__classdict__" : Str)) = false) : FnOk P w K mg base (L2.CX P w) 1 f fd ["self", p] (Init1 K g) := by
  refine F.ok S (fun vs H Q E h => ?_) fun cdv A outer s H vs Q E hr h => ?_
  · obtain ⟨a, dx, C, v, rfl, _⟩ := h; rfl
  · rw [hb]
    obtain ⟨a, dx, C, v, rfl, h1, h2, h3, h4⟩ := h
    have vis : ∀ y ∈ (["self", p] : List Str), Vis (defScope st) y := fun y hy => (S.par y hy).elim .inl fun z => .inr (.inl z)
    refine ⟨_, pss_one (ps_fld (pe_var (i := 0) rfl (vis _ (by simp)) (by decide) (by decide)) (pe_var (i := 1) rfl (vis _ (by simp)) hp.1 hp.2) rfl), ?_⟩
    exact ⟨v, rfl, .ref a, rfl, a, C, dx, [], rfl, h1, h2, h3, by simp, h4⟩
theorem init1_sp {C : Addr} {g : Str} {k : Nat} {f : Addr} {fd : FuncData} {ps : List Str} (c : Cls K C) (n : NoAttr K C g) (F : FnOk P w K mg base (L2.CX P w) k f fd ps (Init1 K g)) : FnOk P w K mg base (L2.CX P w) k f fd ps (InitSp C [g]) :=
  F.imp fun vs H Q E h => by
    obtain ⟨a, dx, ws, rfl, hl, ha, hq⟩ := h
    match ws, hl with
    | [v], _ => exact ⟨a, dx, C, v, rfl, ha, c, n, hq⟩
/-- C.m(..), m a def of the class C, read off the class -/
theorem pe_cfun {X : Cx} {W : WX} {C g : Addr} {mc : Value} {m : Str} {o e : Expr} {es : List Expr} {apos pos : Pos} {ta : TE} {t : TA} {k : Nat} {fd : FuncData} {ps : List Str} {sp : Sp} {pl : Sem Bool} (tk : Takes X W) (he : PE X o ta) (r : ClX.CRead X.K C mc) (kv : ClX.CVal X.K C mc m (.ref g) (.ref g)) (kp : PySem.W.keepIn X.K (.ref g) = true)
    (F : FnOk X.prog X.w X.K X.mg X.base (L2.CX X.prog X.w) k g fd ps sp) (hr : Room k X.A) (hb : Binds X.K fd ps []) (ha : PA X (e :: es) t)
    (hst : starEach (e :: es) X.env = (false, eval e X.env) :: starEach es X.env := by rfl) (hpl : (backTo pos (starEach es X.env)).any (·.1) = false := by rfl)
    (ht : eval (.Call (.Attribute o m apos) (e :: es) [] pos) X.env = (do
      let ov ← eval o X.env
      standAt apos.atName
      let (f, first) ← holding [ov] (getMethod ov m pl)
      callWith pos f first (backTo pos (starEach (e :: es) X.env)) (backToKw pos (keywordEach [] X.env))) := by rfl) :
    PE X (.Call (.Attribute o m apos) (e :: es) [] pos) (fun σ H Q => ta σ H fun x H1 => x = .ref C ∧ t σ H1 fun vs H2 => sp vs H2 Q fun cls d H' => W cls d σ H') := by
  refine ⟨fun pins s σ H Q I h => ?_⟩
  refine PySem.W.methodCall_KW (pl := pl) (thn (he.run pins s σ H _ I h) fun u s1 ⟨x, H1, I1, rx, ex, q⟩ => ?_) ht
  subst ex
  obtain rfl : u = Value.ref C := rx
  refine PySem.W.method_cls I1.kIn r.ga (ClX.getcval_ok I1 r kv fun s2 I2 => ?_)
  refine PySem.W.callWith_K (first := []) (h₀ := X.base) I.ok.mod.kin kp (thn (ha.run pos pins s2 σ H1 _ I2 q) fun us s3 ⟨vs, H2, I3, rv, q2⟩ => ⟨I3.kIn, ?_⟩) hst hpl
  exact run_fnS (us := us) (vs := vs) (E := WE W) F hr hb (passAt tk σ) I3 rv q2
/-- R.__init__(self, p); self.g = q -/
theorem init2_ok {x q0 R g1 g p q : Str} {st : Stmt} {f CR fR : Addr} {fd fdR : FuncData} {psR : List Str} {p1 p2 p3 p4 p5 p6 p7 p8 p9 p10 : Pos} (F : FunD K x q0 (defArgs st) (defBody st) (defScope st) [] [] f fd) (S : FnScope ["self", p, q] ["self", p, q] (defScope st))
    (hb : defBody st = [.Expr (.Call (.Attribute (.Name R p1) "__init__" p2) [.Name "self" p3, .Name p p4] [] p5) p6, .Assign [.Attribute (.Name "self" p7) g p8] (.Name q p9) p10])
    (hp : (p == ("__debug__" : Str)) = false ∧ (p == ("__classdict__" : Str)) = false) (hq : (q == ("__debug__" : Str)) = false ∧ (q == ("__classdict__" : Str)) = false) (hR : (R == ("__debug__" : Str)) = false) (hRs : (R == ("super" : Str)) = false)
    (hgl : (defScope st).names.lookup R = some .globalImplicit) (hline : (p2.endLine == p5.line) = true)
    (hm : mg R = some (.ref CR)) (r : ClX.CRead K CR (.type "type")) (kv : ClX.CVal K CR (.type "type") "__init__" (.ref fR) (.ref fR)) (kp : PySem.W.keepIn K (.ref fR) = true) (FR : FnOk P w K mg base (L2.CX P w) 1 fR fdR psR (Init1 K g1)) (hbR : Binds K fdR psR []) {C : Addr} (c : Cls K C) (n1 : NoAttr K C g1) (n2 : NoAttr K C g) (hne : g1 ≠ g) :
    FnOk P w K mg base (L2.CX P w) 2 f fd ["self", p, q] (InitSp C [g1, g]) := by
  refine F.ok S (fun vs H Q E h => ?_) fun cdv A outer s H vs Q E hr h => ?_
  · obtain ⟨a, dx, ws, rfl, hl, _⟩ := h
    simp [hl]
  · rw [hb]
    obtain ⟨a, dx, ws, rfl, hl, h1, h4⟩ := h
    match ws, hl with
    | [v, u], _ =>
      have vis : ∀ y ∈ (["self", p, q] : List Str), Vis (defScope st) y := fun y hy => (S.par y hy).elim .inl fun z => .inr (.inl z)
      have v0 : PE (cxOf (L2.CX P w) P w K mg base ["self", p, q] q0 (defScope st) f cdv A outer s H E) (.Name "self" p3) _ := pe_var (i := 0) rfl (vis _ (by simp)) (by decide) (by decide)
      have v1 : PE (cxOf (L2.CX P w) P w K mg base ["self", p, q] q0 (defScope st) f cdv A outer s H E) (.Name p p4) _ := pe_var (i := 1) rfl (vis _ (by simp)) hp.1 hp.2
      have gR : PE (cxOf (L2.CX P w) P w K mg base ["self", p, q] q0 (defScope st) f cdv A outer s H E) (.Name R p1) (L2.tC (.ref CR)) := pe_glob (show (cxOf (L2.CX P w) P w K mg base ["self", p, q] q0 (defScope st) f cdv A outer s H E).env.scope.names.lookup R = _ from hgl) hm rfl hR
      have cl := pe_cfun (W := fun cls d σ H => E cls d H) (m := "__init__") (apos := p2) (pos := p5) (takes_of rfl rfl rfl rfl) gR r kv kp FR hr hbR (pa_cons v0 (pa_cons v1 pa_nil)) rfl rfl (evalMeth (by
        unfold attributeBase
        rfl) rfl hline)
      refine ⟨_, pss_cons (ps_expr cl) (pss_one (ps_fld (pe_var (i := 0) rfl (vis _ (by simp)) (by decide) (by decide)) (pe_var (i := 2) rfl (vis _ (by simp)) hq.1 hq.2) rfl)), ?_⟩
      refine ⟨rfl, .ref a, rfl, v, rfl, a, dx, C, v, rfl, h1, c, n1, u, rfl, .ref a, rfl, a, C, dx, [(g1, v)], rfl, upd_same, c, n2, by simp, ?_⟩
      have e1 : putF g u [(g1, v)] = [(g1, v), (g, u)] := by
        unfold putF
        rw [if_neg hne]
        rfl
      have e2 : ∀ (o o' : HO), upd (upd H a o) a o' = upd H a o' := fun o o' => by
        funext b
        by_cases hb : b = a
        · subst hb; rw [upd_same, upd_same]
        · rw [upd_ne hb, upd_ne hb, upd_ne hb]
      rw [e1, e2]
      exact h4
/-- __init__(self, p): B.__init__(self, a text); self.g = p, of an exception class -/
theorem initx_ok {x q0 g p B m : Str} {st : Stmt} {f CB : Addr} {fd : FuncData} {j : Nat} {p1 p2 p3 p4 p5 p6 p7 p8 p9 p10 : Pos} (F : FunD K x q0 (defArgs st) (defBody st) (defScope st) [] [] f fd) (S : FnScope ["self", p] ["self", p] (defScope st))
    (hb : defBody st = [.Expr (.Call (.Attribute (.Name B p1) "__init__" p2) [.Name "self" p3, .Constant (.str m) j p4] [] p5) p6, .Assign [.Attribute (.Name "self" p7) g p8] (.Name p p9) p10])
    (hp : (p == ("__debug__" : Str)) = false ∧ (p == ("__classdict__" : Str)) = false) (hB : (B == ("__debug__" : Str)) = false)
    (hgl : (defScope st).names.lookup B = some .globalImplicit) (hline : (p2.endLine == p5.line) = true) (hm : mg B = some (.ref CB)) (r : ClX.CRead K CB (.type "type")) (kv : PySem.W.findCls K (.ref CB) (.type "type") "__init__" = some (.val (.builtin "ValueError.__init__"))) :
    FnOk P w K mg base (L2.CX P w) 1 f fd ["self", p] (InitX K g) := by
  refine F.ok S (fun vs H Q E h => ?_) fun cdv A outer s H vs Q E hr h => ?_
  · obtain ⟨a, C, v, rfl, _⟩ := h; rfl
  · rw [hb]
    obtain ⟨a, C, v, rfl, T, ha, hno, hq⟩ := h
    have vis : ∀ y ∈ (["self", p] : List Str), Vis (defScope st) y := fun y hy => (S.par y hy).elim .inl fun z => .inr (.inl z)
    have v0 : PE (cxOf (L2.CX P w) P w K mg base ["self", p] q0 (defScope st) f cdv A outer s H E) (.Name "self" p3) _ := pe_var (i := 0) rfl (vis _ (by simp)) (by decide) (by decide)
    have gB : PE (cxOf (L2.CX P w) P w K mg base ["self", p] q0 (defScope st) f cdv A outer s H E) (.Name B p1) (L2.tC (.ref CB)) := pe_glob (show (cxOf (L2.CX P w) P w K mg base ["self", p] q0 (defScope st) f cdv A outer s H E).env.scope.names.lookup B = _ from hgl) hm rfl hB
    have cl := pe_binit (p2 := p2) (pos := p5) gB r kv (pa_cons v0 (pa_cons (pe_str (x := m) (j := j) (pos := p4)) pa_nil)) (evalMeth (by
        unfold attributeBase
        rfl) rfl hline)
    refine ⟨_, pss_cons (ps_expr cl) (pss_one (ps_ost (pe_var (i := 0) rfl (vis _ (by simp)) (by decide) (by decide)) (pe_var (i := 1) rfl (vis _ (by simp)) hp.1 hp.2) rfl)), ?_⟩
    exact ⟨.ref a, rfl, a, C, [.str m], rfl, by simp, T, ha, v, rfl, .ref a, rfl, a, C, rfl, T, hno, .inl ⟨ha, fun dx h1 h2 => hq dx h1 h2⟩⟩
end
end VL

set_option maxHeartbeats 4000000
namespace VL
open PySem PySem.Spec PyProof.Rows L2

/-! ### the head's facts -/
def ddOf (x : Dx) : List He.DefD := match x.kd with
  | .fn => [⟨(x.nm, none), x.nm, x.qual, defArgs x.st, defBody x.st, defScope x.st, [], []⟩]
  | .rcf _ => [⟨(x.nm, none), x.nm, x.qual, defArgs x.st, defBody x.st, defScope x.st, [], []⟩]
  | .meth c => [⟨(c, some x.nm), x.nm, x.qual, defArgs x.st, defBody x.st, defScope x.st, [], []⟩]
  | .cls _ => [⟨(x.nm, some "__init__"), "__init__", x.qual, defArgs x.st, defBody x.st, defScope x.st, [], []⟩]
  | .xcl [] _ => []
  | .xcl (_ :: _) _ => [⟨(x.nm, some "__init__"), "__init__", x.qual, defArgs x.st, defBody x.st, defScope x.st, [], []⟩]
def faE (x : Dx) : List He.Fa := match x.kd with
  | .fn => [.glo x.nm]
  | .rcf _ => [.glo x.nm]
  | .meth c => [.glo c, .cls c, .meth c x.nm]
  | .cls fs => [.glo x.nm, .cls x.nm, .mkr x.nm] ++ fs.map (fun f => .noat x.nm f)
  | .xcl _ _ => [.glo x.nm]
/-- constants of the module -/
inductive Gc where
  | int (i : Int) | str (z : Str) | tup (zs : List Str)
def Gc.t : Gc → T
  | .int i => .int i
  | .str z => .str z
  | .tup zs => .tup (zs.map .str)
def Gc.fa (x : Str) : Gc → He.Fa
  | .int i => .int x i
  | .str z => .str x z
  | .tup _ => .glo x
def Gc.b (K : PySem.W.Frag) (x : Str) : Gc → Bool
  | .tup zs => He.tupB K x (zs.map He.Dv.str)
  | _ => true
def faOf (l : List Dx) (gs : List (Str × Gc)) : List He.Fa := l.flatMap faE ++ (gs.map (fun g => g.2.fa g.1) ++ bnames.map He.Fa.free)
def glOf (gs : List (Str × Gc)) : Str → Option T := fun x => (gs.lookup x).map Gc.t
/-- R.__init__ is read off the class R -/
def rdB (R : Str) (K : PySem.W.Frag) : Bool := PySem.W.readsIn K (He.ga K R) (.type "type") && (decide (PySem.W.specialIn K (.ref (He.ga K R)) "__getattribute__" = some (some (.builtin "type.__getattribute__"))) &&
  (match PySem.W.findCls K (.ref (He.ga K R)) (.type "type") "__init__" with
  | some (.val (.ref a)) => decide (a = He.ma K (He.ga K R) "__init__")
  | _ => false))
theorem rdB_ok {R : Str} {K : PySem.W.Frag} (h : rdB R K = true) : ClX.CRead K (He.ga K R) (.type "type") ∧ ClX.CVal K (He.ga K R) (.type "type") "__init__" (.ref (He.ma K (He.ga K R) "__init__")) (.ref (He.ma K (He.ga K R) "__init__")) := by
  unfold rdB at h
  rw [Bool.and_eq_true, Bool.and_eq_true] at h
  obtain ⟨h1, h2, h3⟩ := h
  refine ⟨⟨h1, of_decide_eq_true h2⟩, ?_, rfl⟩
  split at h3
  · rename_i a e
    have := of_decide_eq_true h3
    subst this
    exact e
  · cases h3
/-- an exception class with an __init__ of its own -/
def oexB (K : PySem.W.Frag) (C : Addr) : Bool := match K.lookup C with
  | some ⟨.type "type", _, .cls cd, sl⟩ => (match cd.mro, sl.toList with
    | .ref C' :: bm, [_, _, _, _, some (.builtin n), _] => C' == C && n == "ValueError.__new__" && !cd.hasDel && HandSPX.refsVE bm && cd.hasDict
    | _, _ => false)
  | _ => false
theorem oexB_ok {K : PySem.W.Frag} {C : Addr} (q : oexB K C = true) : ∃ nm q N bs bm sn sub ab col dd k0 k1 k2 k3 k5, K.lookup C = some (excClassObj nm q C N bs bm true sn sub ab col dd k0 k1 k2 k3 k5 "ValueError.__new__") ∧ HandSPX.refsVE bm = true := by
  unfold oexB at q
  split at q
  · rename_i dd cd sl ho
    split at q
    · rename_i C' bm k0 k1 k2 k3 n k5 hm hs
      simp only [Bool.and_eq_true, beq_iff_eq, Bool.not_eq_true'] at q
      obtain ⟨⟨⟨⟨rfl, rfl⟩, hdel⟩, hbm⟩, hhd⟩ := q
      obtain ⟨nm, bs, mro, ns, qn, hd, sn, sub, ab, col, del⟩ := cd
      dsimp only at hm hdel hhd
      subst hm hdel hhd
      have hsl : sl = #[k0, k1, k2, k3, some (.builtin "ValueError.__new__"), k5] := by
        obtain ⟨l⟩ := sl
        simp only at hs
        rw [hs]
      subst hsl
      exact ⟨nm, qn, ns, bs, bm, sn, sub, ab, col, dd, k0, k1, k2, k3, k5, ho, hbm⟩
    · cases q
  · cases q
def xsOf (l : List Dx) : List (Str × List Str × List Str) := l.filterMap fun e => match e.kd with
  | .xcl fs sup => some (e.nm, fs, sup)
  | _ => none
def xOneB (K : PySem.W.Frag) (x : Str × List Str × List Str) : Bool := xcB K (He.ga K x.1) && (decide (PySem.W.kitOne K (.ref (He.ga K x.1)) (.type "ValueError") = some true) && (tyL.all (fun n => decide (PySem.W.kitOne K (.type n) (.ref (He.ga K x.1)) = some false)) &&
  (x.2.1.all (fun f => decide (PySem.W.findIn K (.ref (He.ga K x.1)) f = some none)) && (match x.2.1 with
  | [] => PySem.W.excIn K (He.ga K x.1) HandSPX.veTail "ValueError.__new__"
  | _ => oexB K (He.ga K x.1) && (decide (PySem.W.findIn K (.ref (He.ga K x.1)) "__setattr__" = some (some (.builtin "object.__setattr__"))) && (decide (PySem.W.findIn K (.ref (He.ga K x.1)) "__init__" = some (some (.ref (He.ma K (He.ga K x.1) "__init__")))) &&
    decide (PySem.W.typeIn K (.ref (He.ma K (He.ga K x.1) "__init__")) = some (.type "function"))))))))
def xPairB (K : PySem.W.Frag) (x y : Str × List Str × List Str) : Bool := decide (PySem.W.subIn K (.ref (He.ga K x.1)) (.ref (He.ga K y.1)) = some (decide (y.1 ∈ x.2.2))) && decide (PySem.W.kitOne K (.ref (He.ga K x.1)) (.ref (He.ga K y.1)) = some (decide (y.1 ∈ x.2.2)))
/-- B.__init__ is ValueError's -/
def binB (B : Str) (K : PySem.W.Frag) : Bool := PySem.W.readsIn K (He.ga K B) (.type "type") && (decide (PySem.W.specialIn K (.ref (He.ga K B)) "__getattribute__" = some (some (.builtin "type.__getattribute__"))) &&
  (match PySem.W.findCls K (.ref (He.ga K B)) (.type "type") "__init__" with
  | some (.val (.builtin z)) => z == "ValueError.__init__"
  | _ => false))
theorem binB_ok {B : Str} {K : PySem.W.Frag} (h : binB B K = true) : ClX.CRead K (He.ga K B) (.type "type") ∧ PySem.W.findCls K (.ref (He.ga K B)) (.type "type") "__init__" = some (.val (.builtin "ValueError.__init__")) := by
  unfold binB at h
  rw [Bool.and_eq_true, Bool.and_eq_true] at h
  obtain ⟨h1, h2, h3⟩ := h
  refine ⟨⟨h1, of_decide_eq_true h2⟩, ?_⟩
  split at h3
  · rename_i z e
    rw [e, beq_iff_eq.mp h3]
  · cases h3
def csOf (l : List Dx) : List (Str × List Str) := l.filterMap fun e => match e.kd with
  | .cls _ => some (e.nm, e.sup)
  | _ => none
def cOneB (K : PySem.W.Frag) (C : Addr) : Bool := decide (PySem.W.findIn K (.ref C) "__class__" = some (some (.builtin "object.__class__"))) && (decide (PySem.W.specialIn K (.builtin "object.__class__") "__get__" = some (some (.builtin "getset_descriptor.__get__"))) && (decide (PySem.W.takesIn K (.builtin "object.__class__") = some true) && decide (PySem.W.mroIn K C (.type "object") = some true)))
def cPairB (K : PySem.W.Frag) (x y : Str × List Str) : Bool := cOneB K (He.ga K x.1) && decide (PySem.W.kitOne K (.ref (He.ga K x.1)) (.ref (He.ga K y.1)) = some (decide (y.1 ∈ x.2)))
def exB0 (Rs Bs : List Str) (gs : List (Str × Gc)) (xs : List (Str × List Str × List Str)) (K : PySem.W.Frag) : Bool := (Rs.all (fun R => rdB R K) && gs.all fun g => g.2.b K g.1) && (Bs.all (fun B => binB B K) && (xs.all (fun x => xOneB K x) && xs.all fun x => xs.all fun y => xPairB K x y))
def exB (Rs Bs : List Str) (gs : List (Str × Gc)) (xs : List (Str × List Str × List Str)) (cs : List (Str × List Str)) (K : PySem.W.Frag) : Bool := (cs.all fun x => cs.all fun y => cPairB K x y) && exB0 Rs Bs gs xs K
abbrev AlE : Type := He.AlD × Bool
def obsE (n : Nat) (fa : List He.Fa) (fn : List He.DefD) (ex : PySem.W.Frag → Bool) (g : Addr → Option Obj) : AlE := (He.obsD fa fn (He.frG g (He.asD g n ++ [cStatics])), ex (He.frG g (He.asD g n ++ [cStatics])))
def hookE (n : Nat) (fa : List He.Fa) (fn : List He.DefD) (ex : PySem.W.Frag → Bool) : PySem.W.Hook where
  α := AlE
  obs := fun s => obsE n fa fn ex s.heap.get?
  val := fun _ => (He.valD fn, true)
  says := fun _ h => ∃ K : PySem.W.Frag, K.In h ∧ He.SaysD fa fn K ∧ ex K = true
  of := fun _ _ e => ⟨_, He.frG_in, congrArg (fun z : AlE => z.1) e, congrArg (fun z : AlE => z.2) e⟩
  keeps := fun _ _ _ ⟨K, hK, c⟩ k => ⟨K, PySem.W.Frag.In.keeps hK k, c⟩
theorem obsE_eq {n : Nat} {fa : List He.Fa} {fn : List He.DefD} {ex : PySem.W.Frag → Bool} {g : Addr → Option Obj} {s : Shared} (h : ∀ a, g a = s.heap.get? a) : obsE n fa fn ex g = (hookE n fa fn ex).obs s := by
  have e : g = s.heap.get? := funext h
  rw [e] <;> rfl
/-! ### classes: what their __init__ is -/
structure One (e : Dx) (g p : Str) : Prop where
  S : FnScope ["self", p] ["self", p] (defScope e.st)
  hb : ∃ p1 p2 p3 p4, defBody e.st = [.Assign [.Attribute (.Name "self" p1) g p2] (.Name p p3) p4]
  hp : (p == ("__debug__" : Str)) = false ∧ (p == ("__classdict__" : Str)) = false
  bi : ∀ (kV doc pm : Value) (an : Option Addr) (cdv ct : Value) (us : List Value), us.length = 2 → bindArgs (PySem.W.fnOf "__init__" e.qual (defArgs e.st) (defBody e.st) (defScope e.st) .none kV doc pm an cdv ct) ⟨us, []⟩ = pure ((["self", p] : List Str).zip us)
structure Two (e : Dx) (R g1 g p q : Str) : Prop where
  S : FnScope ["self", p, q] ["self", p, q] (defScope e.st)
  hb : ∃ p1 p2 p3 p4 p5 p6 p7 p8 p9 p10, defBody e.st = [.Expr (.Call (.Attribute (.Name R p1) "__init__" p2) [.Name "self" p3, .Name p p4] [] p5) p6, .Assign [.Attribute (.Name "self" p7) g p8] (.Name q p9) p10] ∧ (p2.endLine == p5.line) = true
  hp : (p == ("__debug__" : Str)) = false ∧ (p == ("__classdict__" : Str)) = false
  hq : (q == ("__debug__" : Str)) = false ∧ (q == ("__classdict__" : Str)) = false
  hR : (R == ("__debug__" : Str)) = false ∧ (R == ("super" : Str)) = false
  gl : (defScope e.st).names.lookup R = some .globalImplicit
  ne : g1 ≠ g
  bi : ∀ (kV doc pm : Value) (an : Option Addr) (cdv ct : Value) (us : List Value), us.length = 3 → bindArgs (PySem.W.fnOf "__init__" e.qual (defArgs e.st) (defBody e.st) (defScope e.st) .none kV doc pm an cdv ct) ⟨us, []⟩ = pure ((["self", p, q] : List Str).zip us)
/-- an exception class's __init__ -/
structure Xin (e : Dx) (B g p : Str) : Prop where
  S : FnScope ["self", p] ["self", p] (defScope e.st)
  hb : ∃ p1 p2 p3 m j p4 p5 p6 p7 p8 p9 p10, defBody e.st = [.Expr (.Call (.Attribute (.Name B p1) "__init__" p2) [.Name "self" p3, .Constant (.str m) j p4] [] p5) p6, .Assign [.Attribute (.Name "self" p7) g p8] (.Name p p9) p10] ∧ (p2.endLine == p5.line) = true
  hp : (p == ("__debug__" : Str)) = false ∧ (p == ("__classdict__" : Str)) = false
  hB : (B == ("__debug__" : Str)) = false
  gl : (defScope e.st).names.lookup B = some .globalImplicit
  bi : ∀ (kV doc pm : Value) (an : Option Addr) (cdv ct : Value) (us : List Value), us.length = 2 → bindArgs (PySem.W.fnOf "__init__" e.qual (defArgs e.st) (defBody e.st) (defScope e.st) .none kV doc pm an cdv ct) ⟨us, []⟩ = pure ((["self", p] : List Str).zip us)
inductive ShOk (Rs Bs : List Str) (l : List Dx) (e : Dx) : Prop
  | xc0 {sup} : e.kd = .xcl [] sup → ShOk Rs Bs l e
  | xc1 {r : Dx} {g p : Str} {sup fr sr : List Str} : e.kd = .xcl [g] sup → Xin e r.nm g p → r ∈ l → r.kd = .xcl fr sr → r.nm ∈ Bs → ShOk Rs Bs l e
  | fn : e.kd = .fn → ShOk Rs Bs l e
  | rcf {n} : e.kd = .rcf n → ShOk Rs Bs l e
  | meth {c} : e.kd = .meth c → ShOk Rs Bs l e
  | one {g p} : e.kd = .cls [g] → One e g p → ShOk Rs Bs l e
  | two {r g1 g p q pr} : e.kd = .cls [g1, g] → Two e r.nm g1 g p q → r ∈ l → r.kd = .cls [g1] → One r g1 pr → r.nm ∈ Rs → ShOk Rs Bs l e
section
variable {P : Program} {w : World} {base : Heap} {K : PySem.W.Frag} {mg : Str → Option Value} {h : Heap} {gl : Mi} {fuel : Nat} {l : List Dx} {gs : List (Str × Gc)} {Rs Bs : List Str}
theorem fa_in (c : He.SaysD (faOf l gs) (l.flatMap ddOf) K) {e : Dx} (he : e ∈ l) {f : He.Fa} (hf : f ∈ faE e) : f.ok K = true :=
  c.facts (List.mem_append_left _ (List.mem_flatMap.mpr ⟨e, he, hf⟩))
theorem one_fn (c : He.SaysD (faOf l gs) (l.flatMap ddOf) K) {e : Dx} {g p : Str} {fs : List Str} (he : e ∈ l) (hk : e.kd = .cls fs) (o : One e g p) :
    ∃ fd, Binds K fd ["self", p] [] ∧ FnOk P w K mg base (L2.CX P w) 1 (He.ma K (He.ga K e.nm) "__init__") fd ["self", p] (Init1 K g) ∧ PySem.W.keepIn K (.ref (He.ma K (He.ga K e.nm) "__init__")) = true := by
  obtain ⟨fd, F⟩ := c.defs (d := ⟨(e.nm, some "__init__"), "__init__", e.qual, defArgs e.st, defBody e.st, defScope e.st, [], []⟩) (List.mem_flatMap.mpr ⟨e, he, by unfold ddOf; rw [hk]; exact List.mem_singleton.mpr rfl⟩)
  obtain ⟨p1, p2, p3, p4, hb⟩ := o.hb
  exact ⟨fd, F.bindsN o.bi, init1_ok F o.S hb o.hp, F.kp⟩
theorem facts_of (X : K.In h) (G : h.Ns mainGlobals mg) (c : He.SaysD (faOf l gs) (l.flatMap ddOf) K) (ex : exB Rs Bs gs (xsOf l) (csOf l) K = true) (sh : ∀ e ∈ l, ShOk Rs Bs l e) : ∀ e ∈ l, Facts P w base K mg e := fun e he => by
  have ex := (Bool.and_eq_true_iff.mp ex).2
  have F1 : ∀ {R}, R ∈ Rs → _ := fun {R} hR => rdB_ok (List.all_eq_true.mp (Bool.and_eq_true_iff.mp (Bool.and_eq_true_iff.mp ex).1).1 R hR)
  have F2 : ∀ {R}, R ∈ Bs → _ := fun {R} hR => binB_ok (List.all_eq_true.mp (Bool.and_eq_true_iff.mp (Bool.and_eq_true_iff.mp ex).2).1 R hR)
  have F3 : ∀ {x}, x ∈ xsOf l → xOneB K x = true := fun {x} hx => List.all_eq_true.mp (Bool.and_eq_true_iff.mp (Bool.and_eq_true_iff.mp (Bool.and_eq_true_iff.mp ex).2).2).1 x hx
  unfold Facts
  cases sh e he with
  | @xc0 sup hk =>
    rw [hk]
    obtain ⟨h1, h⟩ := Bool.and_eq_true_iff.mp (F3 (x := (e.nm, [], sup)) (List.mem_filterMap.mpr ⟨e, he, by rw [hk]⟩))
    obtain ⟨h2, h⟩ := Bool.and_eq_true_iff.mp h
    obtain ⟨h3, h⟩ := Bool.and_eq_true_iff.mp h
    obtain ⟨h4, h⟩ := Bool.and_eq_true_iff.mp h
    exact ⟨_, He.glo_ok X G (fa_in c he (by unfold faE; rw [hk]; simp)), xcB_ok h1, ⟨of_decide_eq_true h2, fun n hn => of_decide_eq_true (List.all_eq_true.mp h3 n hn)⟩, fun f hf => by (cases hf), .inl ⟨rfl, h⟩⟩
  | @xc1 r g p sup fr sr hk o hr hrk hB =>
    rw [hk]
    obtain ⟨h1, h⟩ := Bool.and_eq_true_iff.mp (F3 (x := (e.nm, [g], sup)) (List.mem_filterMap.mpr ⟨e, he, by rw [hk]⟩))
    obtain ⟨h2, h⟩ := Bool.and_eq_true_iff.mp h
    obtain ⟨h3, h⟩ := Bool.and_eq_true_iff.mp h
    obtain ⟨h4, h⟩ := Bool.and_eq_true_iff.mp h
    obtain ⟨h5, h⟩ := Bool.and_eq_true_iff.mp h
    obtain ⟨h6, h⟩ := Bool.and_eq_true_iff.mp h
    obtain ⟨h7, h8⟩ := Bool.and_eq_true_iff.mp h
    have xk := xcB_ok h1
    obtain ⟨fd, F⟩ := c.defs (d := ⟨(e.nm, some "__init__"), "__init__", e.qual, defArgs e.st, defBody e.st, defScope e.st, [], []⟩) (List.mem_flatMap.mpr ⟨e, he, by unfold ddOf; rw [hk]; exact List.mem_singleton.mpr rfl⟩)
    obtain ⟨p1, p2, p3, m, j, p4, p5, p6, p7, p8, p9, p10, hb, hl⟩ := o.hb
    obtain ⟨cr, cv⟩ := F2 hB
    have T : OexC K (He.ga K e.nm) := ⟨oexB_ok h5, of_decide_eq_true h6, xk.hs, xk.ty, xk.kp⟩
    exact ⟨_, He.glo_ok X G (fa_in c he (by unfold faE; rw [hk]; simp)), xk, ⟨of_decide_eq_true h2, fun n hn => of_decide_eq_true (List.all_eq_true.mp h3 n hn)⟩, fun f hf => of_decide_eq_true (List.all_eq_true.mp h4 f hf),
      .inr ⟨g, _, fd, ["self", p], rfl, T, of_decide_eq_true h7, of_decide_eq_true h8, (initx_ok F o.S hb o.hp o.hB o.gl hl (He.glo_ok X G (fa_in c hr (by unfold faE; rw [hrk]; simp))) cr cv).mono (by decide), F.bindsN (ps := ["self", p]) o.bi⟩⟩
  | fn hk =>
    rw [hk]
    obtain ⟨fd, F⟩ := c.defs (d := ⟨(e.nm, none), e.nm, e.qual, defArgs e.st, defBody e.st, defScope e.st, [], []⟩) (List.mem_flatMap.mpr ⟨e, he, by unfold ddOf; rw [hk]; exact List.mem_singleton.mpr rfl⟩)
    exact ⟨_, fd, He.glo_ok X G (fa_in c he (by unfold faE; rw [hk]; simp)), F⟩
  | @rcf n hk =>
    rw [hk]
    obtain ⟨fd, F⟩ := c.defs (d := ⟨(e.nm, none), e.nm, e.qual, defArgs e.st, defBody e.st, defScope e.st, [], []⟩) (List.mem_flatMap.mpr ⟨e, he, by unfold ddOf; rw [hk]; exact List.mem_singleton.mpr rfl⟩)
    exact ⟨_, fd, He.glo_ok X G (fa_in c he (by unfold faE; rw [hk]; simp)), F⟩
  | @meth cc hk =>
    rw [hk]
    obtain ⟨fd, F⟩ := c.defs (d := ⟨(cc, some e.nm), e.nm, e.qual, defArgs e.st, defBody e.st, defScope e.st, [], []⟩) (List.mem_flatMap.mpr ⟨e, he, by unfold ddOf; rw [hk]; exact List.mem_singleton.mpr rfl⟩)
    exact ⟨_, _, fd, He.glo_ok X G (fa_in c he (by unfold faE; rw [hk]; simp)), He.cls_ok (fa_in c he (by unfold faE; rw [hk]; simp)), He.meth_ok (fa_in c he (by unfold faE; rw [hk]; simp)), F⟩
  | @one g p hk o =>
    rw [hk]
    obtain ⟨fd, hb, FO, _⟩ := one_fn (P := P) (w := w) (base := base) (mg := mg) c he hk o
    have cl := He.cls_ok (fa_in c he (f := .cls e.nm) (by unfold faE; rw [hk]; simp))
    have na : NoAttr K (He.ga K e.nm) g := He.noat_ok (fa_in c he (f := .noat e.nm g) (by unfold faE; rw [hk]; simp))
    exact ⟨_, _, fd, _, He.glo_ok X G (fa_in c he (by unfold faE; rw [hk]; simp)), He.mkr_ok (fa_in c he (by unfold faE; rw [hk]; simp)), cl, fun x hx => by rw [List.mem_singleton.mp hx]; exact na, hb, init1_sp cl na (FO.mono (by decide))⟩
  | @two r g1 g p q pr hk o hr hrk ro hR =>
    rw [hk]
    obtain ⟨fdR, hbR, FR, kpR⟩ := one_fn (P := P) (w := w) (base := base) (mg := mg) c hr hrk ro
    obtain ⟨fd, F⟩ := c.defs (d := ⟨(e.nm, some "__init__"), "__init__", e.qual, defArgs e.st, defBody e.st, defScope e.st, [], []⟩) (List.mem_flatMap.mpr ⟨e, he, by unfold ddOf; rw [hk]; exact List.mem_singleton.mpr rfl⟩)
    obtain ⟨cr, cv⟩ := F1 hR
    have cl := He.cls_ok (fa_in c he (f := .cls e.nm) (by unfold faE; rw [hk]; simp))
    have n1 : NoAttr K (He.ga K e.nm) g1 := He.noat_ok (fa_in c he (f := .noat e.nm g1) (by unfold faE; rw [hk]; simp))
    have n2 : NoAttr K (He.ga K e.nm) g := He.noat_ok (fa_in c he (f := .noat e.nm g) (by unfold faE; rw [hk]; simp))
    obtain ⟨p1, p2, p3, p4, p5, p6, p7, p8, p9, p10, hb, hl⟩ := o.hb
    exact ⟨_, _, fd, _, He.glo_ok X G (fa_in c he (by unfold faE; rw [hk]; simp)), He.mkr_ok (fa_in c he (by unfold faE; rw [hk]; simp)), cl, fun x hx => by
        rcases List.mem_cons.mp hx with z | z
        · rw [z]; exact n1
        · rw [List.mem_singleton.mp z]; exact n2, F.bindsN (ps := ["self", p, q]) o.bi,
      init2_ok F o.S hb o.hp o.hq o.hR.1 o.hR.2 o.gl hl (He.glo_ok X G (fa_in c hr (by unfold faE; rw [hrk]; simp))) cr cv kpR FR hbR cl n1 n2 o.ne⟩
theorem xpair_of (X : K.In h) (G : h.Ns mainGlobals mg) (c : He.SaysD (faOf l gs) (l.flatMap ddOf) K) (ex : exB Rs Bs gs (xsOf l) (csOf l) K = true) : XPair K mg l := by
  obtain ⟨ex1, ex⟩ := Bool.and_eq_true_iff.mp ex
  refine ⟨fun e he e' he' fs sup fs' sup' hk hk' C D hC hD => ?_, fun e he e' he' fs fs' hk hk' C D hC hD => ?_⟩
  · have F4 := (Bool.and_eq_true_iff.mp (Bool.and_eq_true_iff.mp (Bool.and_eq_true_iff.mp ex).2).2).2
    have q := List.all_eq_true.mp (List.all_eq_true.mp F4 (e.nm, fs, sup) (List.mem_filterMap.mpr ⟨e, he, by rw [hk]⟩)) (e'.nm, fs', sup') (List.mem_filterMap.mpr ⟨e', he', by rw [hk']⟩)
    have g1 := He.glo_ok X G (fa_in c he (f := .glo e.nm) (by unfold faE; rw [hk]; simp))
    have g2 := He.glo_ok X G (fa_in c he' (f := .glo e'.nm) (by unfold faE; rw [hk']; simp))
    rw [hC] at g1
    rw [hD] at g2
    cases g1
    cases g2
    obtain ⟨q1, q2⟩ := Bool.and_eq_true_iff.mp q
    exact ⟨of_decide_eq_true q1, of_decide_eq_true q2⟩
  · have q := List.all_eq_true.mp (List.all_eq_true.mp ex1 (e.nm, e.sup) (List.mem_filterMap.mpr ⟨e, he, by rw [hk]⟩)) (e'.nm, e'.sup) (List.mem_filterMap.mpr ⟨e', he', by rw [hk']⟩)
    have g1 := He.glo_ok X G (fa_in c he (f := .glo e.nm) (by unfold faE; rw [hk]; simp))
    have g2 := He.glo_ok X G (fa_in c he' (f := .glo e'.nm) (by unfold faE; rw [hk']; simp))
    have g3 := He.cls_ok (fa_in c he (f := .cls e.nm) (by unfold faE; rw [hk]; simp))
    rw [hC] at g1
    rw [hD] at g2
    cases g1
    cases g2
    obtain ⟨q1, q2⟩ := Bool.and_eq_true_iff.mp q
    obtain ⟨t1, q1⟩ := Bool.and_eq_true_iff.mp q1
    obtain ⟨t2, q1⟩ := Bool.and_eq_true_iff.mp q1
    obtain ⟨t3, t4⟩ := Bool.and_eq_true_iff.mp q1
    exact ⟨g3, ⟨of_decide_eq_true t1, of_decide_eq_true t2, of_decide_eq_true t3, of_decide_eq_true t4⟩, of_decide_eq_true q2⟩
theorem bl_of (X : K.In h) (G : h.Ns mainGlobals mg) (c : He.SaysD (faOf l gs) (l.flatMap ddOf) K) : ∀ x, x ∈ bnames → mg x = none := fun x hx =>
  He.free_ok X G (c.facts (f := .free x) (List.mem_append_right _ (List.mem_append_right _ (List.mem_map_of_mem (f := He.Fa.free) hx))))
theorem mem_lookup {x : Str} {g : Gc} : ∀ {gs : List (Str × Gc)}, gs.lookup x = some g → (x, g) ∈ gs
  | (y, k) :: r, e => by
    have e : (match x == y with | true => some k | false => r.lookup x) = some g := e
    cases q : (x == y) with
    | true => rw [q] at e; cases e; rw [beq_iff_eq.mp q]; exact List.mem_cons_self
    | false => rw [q] at e; exact List.mem_cons_of_mem _ (mem_lookup e)
theorem rep_strs {H : Hp} {D : Addr → Prop} : ∀ zs : List Str, RepL K mg H D (zs.map T.str) ((zs.map He.Dv.str).map (He.Dv.v K))
  | [] => .nil
  | z :: zs => .cons (.str z) (rep_strs zs)
theorem gl_of (X : K.In h) (G : h.Ns mainGlobals mg) (c : He.SaysD (faOf l gs) (l.flatMap ddOf) K) {xs : List (Str × List Str × List Str)} (ex : exB0 Rs Bs gs xs K = true) : ∀ x t, glOf gs x = some t → ∃ u v, mg x = some u ∧ RelV v u ∧ ∀ H D, Rep K mg H D t v := fun x t e => by
  obtain ⟨g, hg, rfl⟩ := Option.map_eq_some_iff.mp e
  have hm := mem_lookup hg
  have hf : (g.fa x).ok K = true := c.facts (List.mem_append_right _ (List.mem_append_left _ (List.mem_map_of_mem (f := fun g : Str × Gc => g.2.fa g.1) hm)))
  cases g with
  | int i =>
    obtain ⟨t, h1⟩ := He.int_ok X G hf
    exact ⟨_, .int i, h1, ⟨_, rfl⟩, fun H D => .int i⟩
  | str z =>
    obtain ⟨t, h1⟩ := He.str_ok X G hf
    exact ⟨_, .str z, h1, ⟨_, rfl⟩, fun H D => .str z⟩
  | tup zs =>
    have hb : He.tupB K x (zs.map He.Dv.str) = true := List.all_eq_true.mp (Bool.and_eq_true_iff.mp (Bool.and_eq_true_iff.mp ex).1).2 _ hm
    refine ⟨_, .ref (He.ga K x), He.glo_ok X G hf, rfl, fun H D => ?_⟩
    rcases He.tupB_ok hb (fun _ => none) with h1 | h1
    · rcases h1 with h1 | ⟨o, h1⟩ <;> cases h1
    · exact .tup (.inr h1) (rep_strs zs)
/-- the law's def, from the head's facts and what it tells -/
theorem law_of {e : Dx} {rest : List Dx} {fa : Addr} {x : Str} (X : K.In h) (G : h.Ns mainGlobals mg) (c : He.SaysD (faOf (e :: rest) gs) ((e :: rest).flatMap ddOf) K) (ex : exB Rs Bs gs (xsOf (e :: rest)) (csOf (e :: rest)) K = true) (sh : ∀ d ∈ e :: rest, ShOk Rs Bs (e :: rest) d) (tab : Tab gl fuel (e :: rest)) (hg : gl.gl = glOf gs) (hk : e.kd = .fn) (hfa : mg e.nm = some (.ref fa)) (hps : e.ps = [x]) :
    ∃ (fd : FuncData), (∀ (s : Shared) (v : Value), BindsTo s fd ⟨[v], []⟩ [(x, v)]) ∧ ∀ base : Heap, FnOk P w K mg base (L2.CX P w) (wt rest + 5) fa fd [x] (FnSp K mg (Df.fn (phi rest) e.d)) := by
  obtain ⟨fd, F⟩ := c.defs (d := ⟨(e.nm, none), e.nm, e.qual, defArgs e.st, defBody e.st, defScope e.st, [], []⟩) (List.mem_flatMap.mpr ⟨e, List.mem_cons_self, by unfold ddOf; rw [hk]; exact List.mem_singleton.mpr rfl⟩)
  have hm := He.glo_ok X G (fa_in c List.mem_cons_self (f := .glo e.nm) (by unfold faE; rw [hk]; simp))
  rw [hfa] at hm
  have hm : fa = He.ga K e.nm := by cases hm; rfl
  subst hm
  have hbi : Chk gl fuel rest e := by
    cases tab with
    | cons c _ _ _ => exact c
    | cls z _ => rw [hk] at z; cases z
    | xcl z _ => rw [hk] at z; cases z
  refine ⟨fd, fun s v => ?_, fun base => ?_⟩
  · have b := FunD.bindsA (ps := e.ps) F hbi.bi s [v] (by rw [hps]; rfl)
    rw [hps] at b
    exact b
  · have := (tab_fn (P := P) (w := w) (base := base) (bl_of X G c) (by rw [hg]; exact gl_of X G c (Bool.and_eq_true_iff.mp ex).2) tab (facts_of X G c ex sh) (xpair_of X G c ex)).2 e rest rfl hk _ fd hfa F
    rw [hps] at this
    exact this.mono (by have : wt (e :: rest) = wt rest + 1 := (by show (match e.kd with | .rcf n => wt rest + n + 2 | _ => wt rest + 1) = _; rw [hk]); omega)
/-- what a call lets out, in whichever world -/
def CXA (P : Program) : CXT := fun outer H s E u s' => ∃ w, L2.CX P w outer H s E u s'
theorem FnOk.any {base : Heap} {k : Nat} {f : Addr} {fd : FuncData} {ps : List Str} {sp : Sp} (F : FnOk P w K mg base (L2.CX P w) k f fd ps sp) : FnOk P w K mg base (CXA P) k f fd ps sp :=
  ⟨F.len, fun A outer s H args us vs Q E hr he hb hv hs => codeAny_mono (F.run A outer s H args us vs Q E hr he hb hv hs) fun r s' hq => by
    cases r with
    | error e => exact ⟨w, hq⟩
    | ok fl => cases fl <;> exact hq⟩
theorem cxa_never (H : Hp) (s : Shared) (e : Value) (s' : Shared) (h : CXA P [] H s (fun _ _ _ => False) e s') : False := by
  obtain ⟨w, _, _, _, _, _, _, _, _, _, _, _, _, z⟩ := h
  exact z
end
end VL

set_option maxHeartbeats 4000000
namespace VL
open PySem PySem.Spec PyProof.Rows L2

/-! ### what is to be shown of a run, part by part -/
abbrev XW := T → En → Prop
def RS {α : Type} (r : Res α) (K : α → En → Prop) (X : XW) : Prop := match r with
  | .ok a e => K a e
  | .exc x e => X x e
  | .stuck => False
theorem RS.bind {α β : Type} {r : Res α} {f : α → M β} {K : β → En → Prop} {X : XW} (h : RS r (fun a e => RS (f a e) K X) X) : RS (r.bind f) K X := by
  cases r <;> exact h
theorem RS.mono {α : Type} {r : Res α} {K K' : α → En → Prop} {X X' : XW} (h : RS r K X) (hk : ∀ a e, K a e → K' a e) (hx : ∀ a e, X a e → X' a e) : RS r K' X' := by
  cases r
  · exact hk _ _ h
  · exact hx _ _ h
  · exact h
theorem RS.opt {α : Type} {o : Option α} {env : En} {K : α → En → Prop} {X : XW} (h : ∃ a, o = some a ∧ K a env) : RS (optO o env) K X := by
  obtain ⟨a, rfl, k⟩ := h
  exact k
abbrev WE := En → (Out → En → Prop) → XW → Prop
def opW (env : En) (x : Opnd) (K : T → Prop) : Prop := match x with
  | .val t => K t
  | .slot i => match env[i]? with
    | some (some (_, t)) => K t
    | _ => False
theorem opW_ok {env : En} {x : Opnd} {K : T → Prop} (h : opW env x K) : ∃ t, opT env x = some t ∧ K t := by
  cases x with
  | val t => exact ⟨t, rfl, h⟩
  | slot i =>
    unfold opW at h
    unfold opT
    dsimp only at h ⊢
    split at h
    · rename_i f t e; (try simp only [e]); exact ⟨t, rfl, h⟩
    · exact h.elim
def wSlotO (i : Nat) (env : En) (K : Opnd → En → Prop) : Prop := match env[i]? with
  | some (some _) => K (.slot i) env
  | _ => False
def wOp (c : C) (w : WE) (env : En) (K : Opnd → En → Prop) (X : XW) : Prop := match c with
  | .slot i => wSlotO i env K
  | _ => w env (fun o e => K (.val o.t) e) X
def wVals : List WE → En → (List T → En → Prop) → XW → Prop
  | w :: ws => fun env K X => w env (fun o e => wVals ws e (fun ts e2 => K (o.t :: ts) e2) X) X
  | [] => fun env K _ => K [] env
def wOps : List C → List WE → En → (List Opnd → En → Prop) → XW → Prop
  | c :: cs, w :: ws => fun env K X => wOp c w env (fun o e => wOps cs ws e (fun os e2 => K (o :: os) e2) X) X
  | [], [] => fun env K _ => K [] env
  | _, _ => fun _ _ _ => False
def wArg : List Pk → List C → List WE → En → (List Opnd → En → Prop) → XW → Prop
  | .es :: ps, _ :: cs, w :: ws => fun env K X => w env (fun o e => wArg ps cs ws e (fun os e2 => K (.val o.t :: os) e2) X) X
  | _ :: ps, c :: cs, w :: ws => fun env K X => wOp c w env (fun o e => wArg ps cs ws e (fun os e2 => K (o :: os) e2) X) X
  | [], [], [] => fun env K _ => K [] env
  | _, _, _ => fun _ _ _ => False
def opsW (env : En) : List Opnd → (List T → Prop) → Prop
  | [], K => K []
  | o :: os, K => opW env o fun t => opsW env os fun ts => K (t :: ts)
theorem opsW_ok {env : En} : ∀ {os : List Opnd} {K : List T → Prop}, opsW env os K → ∃ ts, opTs env os = some ts ∧ K ts
  | [], K, h => ⟨[], rfl, h⟩
  | o :: os, K, h => by
    obtain ⟨t, h1, h2⟩ := opW_ok (K := fun t => opsW env os fun ts => K (t :: ts)) h
    obtain ⟨ts, h3, h4⟩ := opsW_ok h2
    exact ⟨t :: ts, by unfold opTs; rw [h1, h3], h4⟩
/-! ### slots changed, as lists that stand written out -/
def setAt {β : Type} : En → Nat → (Slot → (Slot → β → Prop) → Prop) → (En → β → Prop) → Prop
  | [], _, _, _ => False
  | s :: r, 0, g, K => g s fun s' b => K (s' :: r) b
  | s :: r, n + 1, g, K => setAt r n g fun r' b => K (s :: r') b
theorem setAt_ok {β : Type} : ∀ {env : En} {i : Nat} {g : Slot → (Slot → β → Prop) → Prop} {K : En → β → Prop}, setAt env i g K → ∃ s, env[i]? = some s ∧ g s fun s' b => K (env.set i s') b
  | [], _, _, _, h => h.elim
  | s :: r, 0, g, K, h => ⟨s, rfl, h⟩
  | s :: r, n + 1, g, K, h => by
    obtain ⟨s', e, h⟩ := setAt_ok (env := r) h
    exact ⟨s', e, h⟩
def setG (o : Out) (s : Slot) (k : Slot → Unit → Prop) : Prop := match s with
  | some (.bor, _) => False
  | some (.io, _) => False
  | some (.lck, _) => False
  | _ => match o with
    | .val t => k (some (.sh, t)) ()
    | .own t => k (some (.own, t)) ()
def setW (i : Nat) (o : Out) (env : En) (K : En → Prop) : Prop := setAt env i (setG o) fun e _ => K e
theorem setW_ok {i : Nat} {o : Out} {env : En} {K : En → Prop} {X : XW} (h : setW i o env K) : RS (setName i o env) (fun _ e => K e) X := by
  obtain ⟨s, e, h⟩ := setAt_ok h
  unfold setName
  rw [e]
  dsimp only
  rcases s with _ | ⟨f, t⟩
  · cases o <;> exact h
  · cases f <;> first | exact h.elim | (cases o <;> exact h)
def dropG (s : Slot) (k : Slot → Unit → Prop) : Prop := match s with
  | some (.bor, _) => False
  | some (.io, _) => False
  | some (.lck, _) => False
  | _ => k none ()
def wipeW : List Nat → En → (En → Prop) → Prop
  | [], env, K => K env
  | i :: is, env, K => wipeW is env fun e => setAt e i dropG fun e _ => K e
theorem wipeE_at : ∀ {ws : List Nat} {env : En} {j : Nat} {s : Slot}, (wipeE env ws)[j]? = some s → env[j]? = some s ∨ j ∈ ws
  | [], env, j, s, h => .inl h
  | i :: is, env, j, s, h => by
    unfold wipeE at h
    rcases set_cases h with ⟨rfl, _, _⟩ | ⟨_, h⟩
    · exact .inr List.mem_cons_self
    · exact (wipeE_at h).imp id (List.mem_cons_of_mem _)
theorem wipeW_ok : ∀ {ws : List Nat} {env : En} {K : En → Prop}, wipeW ws env K → (ws.all fun i => freeS (env.getD i none)) = true ∧ K (wipeE env ws)
  | [], env, K, h => ⟨rfl, h⟩
  | i :: is, env, K, h => by
    obtain ⟨h1, h2⟩ := wipeW_ok (ws := is) h
    obtain ⟨s, e, h3⟩ := setAt_ok h2
    have fs : freeS s = true ∧ K ((wipeE env is).set i none) := by
      rcases s with _ | ⟨f, t⟩
      · exact ⟨rfl, h3⟩
      · cases f <;> first | exact h3.elim | exact ⟨rfl, h3⟩
    refine ⟨?_, fs.2⟩
    rw [List.all_cons, Bool.and_eq_true]
    refine ⟨?_, h1⟩
    rcases wipeE_at e with z | z
    · rw [List.getD_eq_getElem?_getD, z]; exact fs.1
    · exact List.all_eq_true.mp h1 i z
theorem wipeF_of {ws : List Nat} {env : En} {K : En → Prop} {X : XW} (h : wipeW ws env K) : RS (wipeF ws env) (fun _ e => K e) X := by
  obtain ⟨h1, h2⟩ := wipeW_ok h
  unfold wipeF
  rw [if_pos h1]
  exact h2
def clearG (s : Slot) (k : Slot → Unit → Prop) : Prop := match s with
  | none => k none ()
  | some (.sh, _) => k none ()
  | _ => False
/-- a comprehension's own names, forgotten -/
def wipeS : List Nat → En → (En → Prop) → Prop
  | [], env, K => K env
  | i :: is, env, K => wipeS is env fun e => setAt e i clearG fun e _ => K e
theorem wipeS_ok : ∀ {ws : List Nat} {env : En} {K : En → Prop}, wipeS ws env K → (ws.all fun i => shNone (env.getD i none)) = true ∧ K (wipeE env ws)
  | [], env, K, h => ⟨rfl, h⟩
  | i :: is, env, K, h => by
    obtain ⟨h1, h2⟩ := wipeS_ok (ws := is) h
    obtain ⟨s, e, h3⟩ := setAt_ok h2
    have fs : shNone s = true ∧ K ((wipeE env is).set i none) := by
      rcases s with _ | ⟨f, t⟩
      · exact ⟨rfl, h3⟩
      · cases f <;> first | exact h3.elim | exact ⟨rfl, h3⟩
    refine ⟨?_, fs.2⟩
    rw [List.all_cons, Bool.and_eq_true]
    refine ⟨?_, h1⟩
    rcases wipeE_at e with z | z
    · rw [List.getD_eq_getElem?_getD, z]; exact fs.1
    · exact List.all_eq_true.mp h1 i z
theorem wipeM_of {ws : List Nat} {env : En} {K : En → Prop} (h : wipeS ws env K) : wipeM ws env = .ok () (wipeE env ws) ∧ K (wipeE env ws) := by
  obtain ⟨h1, h2⟩ := wipeS_ok h
  unfold wipeM
  rw [if_pos h1]
  exact ⟨rfl, h2⟩
theorem wipeE_len : ∀ {ws : List Nat} {env : En}, (wipeE env ws).length = env.length
  | [], _ => rfl
  | i :: is, env => by unfold wipeE; rw [List.length_set, wipeE_len]
theorem backE_len {old : En} : ∀ {ws : List Nat} {env : En}, (backE old env ws).length = env.length
  | [], _ => rfl
  | i :: is, env => by unfold backE; rw [List.length_set, backE_len]
theorem backE_in {old : En} : ∀ {ws : List Nat} {env : En} {j : Nat}, old.length = env.length → (j ∈ ws → (backE old env ws)[j]? = old[j]?) ∧ (j ∉ ws → (backE old env ws)[j]? = env[j]?)
  | [], env, j, _ => ⟨fun z => (by cases z), fun _ => rfl⟩
  | i :: is, env, j, hl => by
    unfold backE
    by_cases hij : j = i
    · subst hij
      refine ⟨fun _ => ?_, fun z => absurd List.mem_cons_self z⟩
      by_cases hj : j < old.length
      · rw [List.getElem?_set_self (by rw [backE_len]; omega), List.getD_eq_getElem?_getD, List.getElem?_eq_getElem hj]; rfl
      · rw [List.set_eq_of_length_le (by rw [backE_len]; omega), List.getElem?_eq_none (by rw [backE_len]; omega), List.getElem?_eq_none (by omega)]
    · rw [List.getElem?_set_ne (Ne.symm hij)]
      obtain ⟨q1, q2⟩ := backE_in (ws := is) (env := env) (j := j) hl
      refine ⟨fun z => q1 ?_, fun z => q2 fun y => z (List.mem_cons_of_mem _ y)⟩
      rcases List.mem_cons.mp z with z | z
      · exact absurd z hij
      · exact z
theorem wipeE_out : ∀ {ws : List Nat} {env : En} {j : Nat}, j ∉ ws → (wipeE env ws)[j]? = env[j]?
  | [], _, _, _ => rfl
  | i :: is, env, j, h => by
    unfold wipeE
    rw [List.getElem?_set_ne (fun z => h (by rw [z]; exact List.mem_cons_self)), wipeE_out fun z => h (List.mem_cons_of_mem _ z)]
theorem back_wipe {ws : List Nat} {env : En} : backE env (wipeE env ws) ws = env := by
  refine List.ext_getElem? fun j => ?_
  obtain ⟨q1, q2⟩ := backE_in (old := env) (ws := ws) (env := wipeE env ws) (j := j) (by rw [wipeE_len])
  by_cases h : j ∈ ws
  · exact q1 h
  · rw [q2 h, wipeE_out h]
/-! ### what the operations ask -/
def binW (op : Operator) (a b : T) (K : Out → Prop) : Prop := match op, a, b with
  | .Add, .int i, .int j => K (.val (.int (i + j)))
  | .Sub, .int i, .int j => K (.val (.int (i - j)))
  | .Mult, .int i, .int j => okMul i j = true ∧ K (.val (.int (i * j)))
  | .Mod, .int i, .int j => 0 < j ∧ K (.val (.int (i % j)))
  | .FloorDiv, .int i, .int j => okDiv j = true ∧ K (.val (.int (i / j)))
  | .Pow, .int i, .int j => (0 ≤ j ∧ j ≤ 1000000 ∧ i.natAbs < 2 ^ 64) ∧ K (.val (.int (i ^ j.toNat)))
  | .Add, .str x, .str y => x.length + y.length ≤ LIM ∧ K (.val (.str (x ++ y)))
  | .Add, .lst x, .lst y => x.length + y.length ≤ LIM ∧ K (.own (.lst (x ++ y)))
  | .Add, .tup x, .tup y => x.length + y.length ≤ LIM ∧ K (.val (.tup (x ++ y)))
  | op, a, b => ∃ o, binT op a b = some o ∧ K o
theorem binW_ok {op : Operator} {a b : T} {K : Out → Prop} (h : binW op a b K) : ∃ o, binT op a b = some o ∧ K o := by
  unfold binW at h
  split at h
  · exact ⟨_, rfl, h⟩
  · exact ⟨_, rfl, h⟩
  · exact ⟨_, by simp [binT, h.1], h.2⟩
  · exact ⟨_, by simp [binT, h.1], h.2⟩
  · exact ⟨_, by simp [binT, h.1], h.2⟩
  · exact ⟨_, by simp only [binT]; rw [if_pos h.1], h.2⟩
  · exact ⟨_, by simp only [binT]; rw [if_pos h.1], h.2⟩
  · exact ⟨_, by simp only [binT]; rw [if_pos h.1], h.2⟩
  · exact ⟨_, by simp only [binT]; rw [if_pos h.1], h.2⟩
  · exact h
/-- a comparison: what holds where it is true, where it is false -/
def cmpW (op : CmpOp) (a b : T) (A B : Prop) : Prop := match op, a, b with
  | .Lt, .int i, .int j => (i < j → A) ∧ (¬ i < j → B)
  | .LtE, .int i, .int j => (i ≤ j → A) ∧ (¬ i ≤ j → B)
  | .Gt, .int i, .int j => (j < i → A) ∧ (¬ j < i → B)
  | .GtE, .int i, .int j => (j ≤ i → A) ∧ (¬ j ≤ i → B)
  | .Eq, .int i, .int j => (i = j → A) ∧ (¬ i = j → B)
  | .NotEq, .int i, .int j => (¬ i = j → A) ∧ (i = j → B)
  | .Eq, .str i, .str j => (i = j → A) ∧ (¬ i = j → B)
  | .NotEq, .str i, .str j => (¬ i = j → A) ∧ (i = j → B)
  | op, a, b => ∃ k, cmpT op a b = some k ∧ (k = true → A) ∧ (k = false → B)
theorem w_eqi {a b : Int} : cmpT .Eq (.int a) (.int b) = some (decide (a = b)) := by
  have : eqT (.int a) (.int b) = decide (a = b) := by
    unfold eqT toPD
    simp only [PyData.eqv]
    by_cases h : a = b <;> simp [h]
  unfold cmpT
  simp [datT, this]
theorem w_nei {a b : Int} : cmpT .NotEq (.int a) (.int b) = some (!decide (a = b)) := by
  have : eqT (.int a) (.int b) = decide (a = b) := by
    unfold eqT toPD
    simp only [PyData.eqv]
    by_cases h : a = b <;> simp [h]
  unfold cmpT
  simp [datT, this]
theorem dec_imp {P A B : Prop} [Decidable P] (h : (P → A) ∧ (¬ P → B)) : ((decide P = true → A) ∧ (decide P = false → B)) :=
  ⟨fun z => h.1 (of_decide_eq_true z), fun z => h.2 (of_decide_eq_false z)⟩
theorem decn_imp {P A B : Prop} [Decidable P] (h : (¬ P → A) ∧ (P → B)) : (((!decide P) = true → A) ∧ ((!decide P) = false → B)) :=
  ⟨fun z => h.1 (by simpa using z), fun z => h.2 (by simpa using z)⟩
theorem str_beq {a b : Str} : (a == b) = decide (a = b) := by
  by_cases h : a = b
  · subst h; simp
  · rw [decide_eq_false h]; exact beq_eq_false_iff_ne.mpr h
theorem cmpW_ok {op : CmpOp} {a b : T} {A B : Prop} (h : cmpW op a b A B) : ∃ k, cmpT op a b = some k ∧ (k = true → A) ∧ (k = false → B) := by
  unfold cmpW at h
  split at h
  · exact ⟨_, rfl, dec_imp h⟩
  · exact ⟨_, rfl, dec_imp h⟩
  · exact ⟨_, rfl, dec_imp h⟩
  · exact ⟨_, rfl, dec_imp h⟩
  · exact ⟨_, w_eqi, dec_imp h⟩
  · exact ⟨_, w_nei, decn_imp h⟩
  · exact ⟨_, by rename_i i j; show some (i == j) = _; rw [str_beq], dec_imp h⟩
  · exact ⟨_, by rename_i i j; show some (!(i == j)) = _; rw [str_beq], decn_imp h⟩
  · exact h
def cmpV (op : CmpOp) (a b : T) (K : Bool → Prop) : Prop := match op, a, b with
  | .Lt, .int i, .int j => K (decide (i < j))
  | .LtE, .int i, .int j => K (decide (i ≤ j))
  | .Gt, .int i, .int j => K (decide (j < i))
  | .GtE, .int i, .int j => K (decide (j ≤ i))
  | .Eq, .int i, .int j => K (decide (i = j))
  | .NotEq, .int i, .int j => K (!decide (i = j))
  | .Eq, .str i, .str j => K (decide (i = j))
  | .NotEq, .str i, .str j => K (!decide (i = j))
  | op, a, b => ∃ k, cmpT op a b = some k ∧ K k
theorem cmpV_ok {op : CmpOp} {a b : T} {K : Bool → Prop} (h : cmpV op a b K) : ∃ k, cmpT op a b = some k ∧ K k := by
  unfold cmpV at h
  split at h
  · exact ⟨_, rfl, h⟩
  · exact ⟨_, rfl, h⟩
  · exact ⟨_, rfl, h⟩
  · exact ⟨_, rfl, h⟩
  · exact ⟨_, w_eqi, h⟩
  · exact ⟨_, w_nei, h⟩
  · exact ⟨_, by rename_i i j; show some (i == j) = _; rw [str_beq], h⟩
  · exact ⟨_, by rename_i i j; show some (!(i == j)) = _; rw [str_beq], h⟩
  · exact h
def truW (t : T) (A B : Prop) : Prop := match t with
  | .non => B
  | .bl b => (b = true → A) ∧ (b = false → B)
  | .int i => (¬ i = 0 → A) ∧ (i = 0 → B)
  | .lst xs => (xs ≠ [] → A) ∧ (xs = [] → B)
  | .tup xs => (xs ≠ [] → A) ∧ (xs = [] → B)
  | t => ∃ k, truT t = some k ∧ (k = true → A) ∧ (k = false → B)
theorem empT {xs : List T} {A B : Prop} (h : (xs ≠ [] → A) ∧ (xs = [] → B)) : ((!xs.isEmpty) = true → A) ∧ ((!xs.isEmpty) = false → B) := by
  cases xs with
  | nil => exact ⟨fun z => (by cases z), fun _ => h.2 rfl⟩
  | cons x xs => exact ⟨fun _ => h.1 (fun z => by cases z), fun z => (by cases z)⟩
theorem truW_ok {t : T} {A B : Prop} (h : truW t A B) : ∃ k, truT t = some k ∧ (k = true → A) ∧ (k = false → B) := by
  cases t with
  | non => exact ⟨false, rfl, (fun z => by cases z), fun _ => h⟩
  | bl b => exact ⟨b, rfl, h⟩
  | int i => exact ⟨i != 0, rfl, fun z => h.1 (by simpa using z), fun z => h.2 (by simpa using z)⟩
  | lst xs => exact ⟨_, rfl, empT h⟩
  | tup xs => exact ⟨_, rfl, empT h⟩
  | str s => exact h
  | dct a b => exact h
  | dtt a b => exact h
  | ins a b c => exact h
  | exc a b c => exact h
  | scr a => exact h
  | ktp a => exact h
def biW (b : Bi) (ts : List T) (K : Out → Prop) : Prop := match b, ts with
  | .len, [.lst xs] => K (.val (.int xs.length))
  | .len, [.tup xs] => K (.val (.int xs.length))
  | .len, [.scr xs] => K (.val (.int xs.length))
  | .max, [.int i, .int j] => K (.val (.int (max i j)))
  | .min, [.int i, .int j] => K (.val (.int (min i j)))
  | .int, [.int i] => K (.val (.int i))
  | .int, [.bl k] => K (.val (.int (if k then 1 else 0)))
  | .list, [.lst xs] => K (.own (.lst xs))
  | .list, [.tup xs] => K (.own (.lst xs))
  | .tuple, [.lst xs] => K (.val (.tup xs))
  | .tuple, [.tup xs] => K (.val (.tup xs))
  | b, ts => ∃ o, biT b ts = some o ∧ K o
theorem biW_ok {b : Bi} {ts : List T} {K : Out → Prop} (h : biW b ts K) : ∃ o, biT b ts = some o ∧ K o := by
  unfold biW at h
  split at h
  · exact ⟨_, rfl, h⟩
  · exact ⟨_, rfl, h⟩
  · exact ⟨_, rfl, h⟩
  · rename_i i j
    refine ⟨.val (.int (max i j)), ?_, h⟩
    show some (Out.val (T.int (if _ then _ else _))) = _
    congr 3
    split <;> omega
  · rename_i i j
    refine ⟨.val (.int (min i j)), ?_, h⟩
    show some (Out.val (T.int (if _ then _ else _))) = _
    congr 3
    split <;> omega
  · exact ⟨_, rfl, h⟩
  · exact ⟨_, rfl, h⟩
  · exact ⟨_, rfl, h⟩
  · exact ⟨_, rfl, h⟩
  · exact ⟨_, rfl, h⟩
  · exact ⟨_, rfl, h⟩
  · exact h
def limW : List C → Nat → Prop → Prop
  | [], _, K => K
  | _ :: cs, n + 1, K => limW cs n K
  | _ :: _, 0, _ => False
theorem limW_ok : ∀ {cs : List C} {n : Nat} {K : Prop}, limW cs n K → cs.length ≤ n ∧ K
  | [], n, K, h => ⟨Nat.zero_le _, h⟩
  | _ :: cs, n + 1, K, h => by
    obtain ⟨h1, h2⟩ := limW_ok (cs := cs) h
    exact ⟨by simpa using h1, h2⟩
  | _ :: _, 0, _, h => h.elim
def blW (t : T) (K : Bool → Prop) : Prop := match t with
  | .bl k => K k
  | _ => False
def intW (t : T) (K : Int → Prop) : Prop := match t with
  | .int k => K k
  | _ => False
/-! ### calls -/
def FS (r : FRes) (K : Out → List T → Prop) (X : T → List T → Prop) : Prop := match r with
  | .ok o outs => K o outs
  | .exc x outs => X x outs
  | .stuck => False
def memN (i : Nat) : List Nat → Bool
  | [] => false
  | j :: js => Nat.beq i j || memN i js
theorem memN_no {i : Nat} : ∀ {l : List Nat}, memN i l = false → i ∉ l
  | [], _, h => by cases h
  | j :: js, e, h => by
    unfold memN at e
    rw [Bool.or_eq_false_iff] at e
    rcases List.mem_cons.mp h with z | z
    · subst z
      have := e.1
      rw [Nat.beq_refl] at this
      cases this
    · exact memN_no e.2 z
def notIn (i : Nat) (l : List Nat) (K : Prop) : Prop := match memN i l with
  | false => K
  | true => False
theorem notIn_ok {i : Nat} {l : List Nat} {K : Prop} (h : notIn i l K) : i ∉ l ∧ K := by
  unfold notIn at h
  split at h
  · rename_i e; exact ⟨memN_no e, h⟩
  · exact h.elim
def argW (env : En) : List Pk → List Opnd → (List Md → List T → List Nat → Prop) → Prop
  | .io :: ps, .slot i :: os, K => match env[i]? with
    | some (some (.own, t)) => argW env ps os fun md ts l => notIn i l (K (.io :: md) (t :: ts) (i :: l))
    | some (some (.io, t)) => argW env ps os fun md ts l => notIn i l (K (.io :: md) (t :: ts) (i :: l))
    | _ => False
  | .rd :: ps, .slot i :: os, K => match env[i]? with
    | some (some (.sh, t)) => argW env ps os fun md ts l => K (.sh :: md) (t :: ts) l
    | some (some (_, t)) => argW env ps os fun md ts l => notIn i l (K (.bor :: md) (t :: ts) (i :: l))
    | _ => False
  | .rd :: ps, .val t :: os, K => argW env ps os fun md ts l => K (.sh :: md) (t :: ts) l
  | .es :: ps, .val t :: os, K => argW env ps os fun md ts l => K (.sh :: md) (t :: ts) l
  | [], [], K => K [] [] []
  | _, _, _ => False
theorem argW_ok {env : En} : ∀ {ps : List Pk} {os : List Opnd} {K : List Md → List T → List Nat → Prop}, argW env ps os K → ∃ a, argvs env ps os = some a ∧ K a.md a.ts a.lent
  | .io :: ps, .slot i :: os, K, h => by
    unfold argW at h
    unfold argvs
    split at h
    · rename_i t e
      obtain ⟨a, ha, h⟩ := argW_ok h
      obtain ⟨h1, h2⟩ := notIn_ok h
      rw [e, ha]
      exact ⟨_, if_pos ⟨.inl rfl, h1⟩, h2⟩
    · rename_i t e
      obtain ⟨a, ha, h⟩ := argW_ok h
      obtain ⟨h1, h2⟩ := notIn_ok h
      rw [e, ha]
      exact ⟨_, if_pos ⟨.inr rfl, h1⟩, h2⟩
    · exact h.elim
  | .rd :: ps, .slot i :: os, K, h => by
    unfold argW at h
    unfold argvs
    split at h
    · rename_i t e
      obtain ⟨a, ha, h⟩ := argW_ok h
      rw [e, ha]
      exact ⟨_, if_pos rfl, h⟩
    · rename_i f t hne e
      obtain ⟨a, ha, h⟩ := argW_ok h
      obtain ⟨h1, h2⟩ := notIn_ok h
      rw [e, ha]
      have hf : f ≠ .sh := fun z => by subst z; exact hne rfl
      refine ⟨⟨.bor :: a.md, t :: a.ts, i :: a.lent⟩, ?_, h2⟩
      show (if f = .sh then _ else if i ∉ a.lent then _ else _) = _
      rw [if_neg hf, if_pos h1]
    · exact h.elim
  | .rd :: ps, .val t :: os, K, h => by
    unfold argW at h
    unfold argvs
    obtain ⟨a, ha, h⟩ := argW_ok h
    rw [ha]
    exact ⟨_, rfl, h⟩
  | .es :: ps, .val t :: os, K, h => by
    unfold argW at h
    unfold argvs
    obtain ⟨a, ha, h⟩ := argW_ok h
    rw [ha]
    exact ⟨_, rfl, h⟩
  | [], [], K, h => ⟨_, rfl, h⟩
  | [], _ :: _, K, h => h.elim
  | .rd :: _, [], K, h => h.elim
  | .io :: _, [], K, h => h.elim
  | .es :: _, [], K, h => h.elim
  | .io :: _, .val _ :: _, K, h => h.elim
  | .es :: _, .slot _ :: _, K, h => h.elim
def putG (t : T) (s : Slot) (k : Slot → Unit → Prop) : Prop := match s with
  | some (f, _) => k (some (f, t)) ()
  | none => False
def wbW : En → List Md → List Opnd → List T → (En → Prop) → Prop
  | env, .io :: ms, .slot i :: os, t :: ts, K => setAt env i (putG t) fun e _ => wbW e ms os ts K
  | env, .sh :: ms, _ :: os, _ :: ts, K => wbW env ms os ts K
  | env, .bor :: ms, _ :: os, _ :: ts, K => wbW env ms os ts K
  | env, [], [], [], K => K env
  | _, _, _, _, _ => False
theorem wbW_ok : ∀ {md : List Md} {env : En} {os : List Opnd} {ts : List T} {K : En → Prop}, wbW env md os ts K → ∃ e, writeB env md os ts = some e ∧ K e
  | .io :: ms, env, .slot i :: os, t :: ts, K, h => by
    unfold wbW at h
    obtain ⟨s, e, h⟩ := setAt_ok h
    rcases s with _ | ⟨f, u⟩
    · exact h.elim
    · obtain ⟨e2, he, h⟩ := wbW_ok (md := ms) h
      refine ⟨e2, ?_, h⟩
      unfold writeB setT
      rw [e]
      exact he
  | .sh :: ms, env, _ :: os, _ :: ts, K, h => by
    unfold wbW at h
    obtain ⟨e2, he, h⟩ := wbW_ok h
    exact ⟨e2, by unfold writeB; exact he, h⟩
  | .bor :: ms, env, _ :: os, _ :: ts, K, h => by
    unfold wbW at h
    obtain ⟨e2, he, h⟩ := wbW_ok h
    exact ⟨e2, by unfold writeB; exact he, h⟩
  | [], env, [], [], K, h => ⟨env, rfl, h⟩
  | [], _, [], _ :: _, _, h => h.elim
  | [], _, _ :: _, _, _, h => h.elim
  | .io :: _, _, [], _, _, h => h.elim
  | .sh :: _, _, [], _, _, h => h.elim
  | .bor :: _, _, [], _, _, h => h.elim
  | .io :: _, _, .val _ :: _, _, _, h => h.elim
  | .io :: _, _, .slot _ :: _, [], _, h => h.elim
  | .sh :: _, _, _ :: _, [], _, h => h.elim
  | .bor :: _, _, _ :: _, [], _, h => h.elim
/-- a call: its promise's run -/
def wCall (F : Fn) (env : En) (ops : List Opnd) (K : Out → En → Prop) (X : XW) : Prop :=
  argW env F.pk ops fun md ts _ => ∃ r, F.run md ts = r ∧ FS r (fun o outs => wbW env md ops outs fun e2 => K o e2) (fun x outs => wbW env md ops outs fun e2 => X x e2)
def ownW (o : Out) (K : T → Prop) : Prop := match o with
  | .own t => K t
  | .val _ => False
def outsW (outs : List T) (K : List T → Prop) : Prop := match outs with
  | _ :: r => K r
  | [] => False
def pkW (pk : List Pk) (K : List Pk → Prop) : Prop := match pk with
  | .io :: ps => K ps
  | _ => False
/-- a call whose first argument is given away -/
def wCallO (F : Fn) (t : T) (env : En) (ops : List Opnd) (K : Out → En → Prop) (X : XW) : Prop :=
  pkW F.pk fun ps => argW env ps ops fun md ts _ => ∃ r, F.run (.io :: md) (t :: ts) = r ∧ FS r (fun o outs => outsW outs fun outs => wbW env md ops outs fun e2 => K o e2) (fun x outs => outsW outs fun outs => wbW env md ops outs fun e2 => X x e2)
theorem wCallO_ok {F : Fn} {t : T} {env : En} {ops : List Opnd} {K : Out → En → Prop} {X : XW} (h : wCallO F t env ops K X) : RS (match F.pk with
    | .io :: ps => (match argvs env ps ops with
      | none => .stuck
      | some a => match F.run (.io :: a.md) (t :: a.ts) with
        | .ok o (_ :: outs) => (match writeB env a.md ops outs with
          | some env2 => .ok o env2
          | none => .stuck)
        | .exc x (_ :: outs) => (match writeB env a.md ops outs with
          | some env2 => .exc x env2
          | none => .stuck)
        | _ => .stuck)
    | _ => .stuck) K X := by
  unfold wCallO at h
  cases hpk : F.pk with
  | nil => rw [hpk] at h; exact h.elim
  | cons p ps =>
    rw [hpk] at h
    cases p with
    | rd => exact h.elim
    | es => exact h.elim
    | io =>
      obtain ⟨a, ha, r, hr, h⟩ := argW_ok (show argW env ps ops _ from h)
      dsimp only
      rw [ha]
      dsimp only
      rw [hr]
      cases r with
      | stuck => exact h.elim
      | ok o outs =>
        cases outs with
        | nil => exact h.elim
        | cons t0 outs =>
          obtain ⟨e2, he, h⟩ := wbW_ok (show wbW env a.md ops outs _ from h)
          dsimp only
          rw [he]
          exact h
      | exc x outs =>
        cases outs with
        | nil => exact h.elim
        | cons t0 outs =>
          obtain ⟨e2, he, h⟩ := wbW_ok (show wbW env a.md ops outs _ from h)
          dsimp only
          rw [he]
          exact h
def walkW (env : En) (x : Opnd) (K : List T × List Nat → Prop) : Prop := ∃ w, walkO env x = some w ∧ K w
def subG (k v : T) (s : Slot) (K : Slot → Unit → Prop) : Prop := match s with
  | some (.own, o) => ∃ o', setIx o k v = some o' ∧ K (some (.own, o')) ()
  | some (.io, o) => ∃ o', setIx o k v = some o' ∧ K (some (.io, o')) ()
  | _ => False
def subW (i : Nat) (w : En → (Opnd → En → Prop) → XW → Prop) (v : T) (env : En) (K : En → Prop) (X : XW) : Prop := match env[i]? with
  | some (some _) => w env (fun x e1 => opW e1 x fun k => setAt e1 i (subG k v) fun e _ => K e) X
  | _ => False
def mutX (m : Mm) (o : T) (ts : List T) (K : T → T → Prop) : Prop := match m, o, ts with
  | .append, .lst xs, [t] => xs.length < LIM ∧ K (.lst (xs ++ [t])) .non
  | m, o, ts => ∃ p, mutT m o ts = some p ∧ K p.1 p.2
theorem mutX_ok {m : Mm} {o : T} {ts : List T} {K : T → T → Prop} (h : mutX m o ts K) : ∃ p, mutT m o ts = some p ∧ K p.1 p.2 := by
  unfold mutX at h
  split at h
  · exact ⟨_, by simp only [mutT, h.1, if_true]; rfl, h.2⟩
  · exact h
def mutG (m : Mm) (ts : List T) (s : Slot) (K : Slot → T → Prop) : Prop := match s with
  | some (.own, o) => mutX m o ts fun o' r => K (some (.own, o')) r
  | some (.io, o) => mutX m o ts fun o' r => K (some (.io, o')) r
  | _ => False
def mutW2 (m : Mm) (i : Nat) (ts : List T) (e1 : En) (K : Out → En → Prop) : Prop := setAt e1 i (mutG m ts) fun e r => K (.val r) e
def mutW (m : Mm) (i : Nat) (w : En → (List T → En → Prop) → XW → Prop) (env : En) (K : Out → En → Prop) (X : XW) : Prop := match env[i]? with
  | some (some (.own, .lst _)) => w env (fun ts e1 => mutW2 m i ts e1 K) X
  | some (some (.io, .lst _)) => w env (fun ts e1 => mutW2 m i ts e1 K) X
  | _ => False
theorem mutW2_ok {m : Mm} {i : Nat} {ts : List T} {e1 : En} {K : Out → En → Prop} {X : XW} (h : mutW2 m i ts e1 K) : RS (mutS2 m i ts e1) K X := by
  obtain ⟨s, e, h⟩ := setAt_ok h
  unfold mutS2
  rw [e]
  rcases s with _ | ⟨f, o⟩
  · exact h.elim
  · dsimp only
    cases f <;> first | exact h.elim | skip
    · obtain ⟨p, hp, h⟩ := mutX_ok (K := fun o' r => K (.val r) (e1.set i (some (.own, o')))) h
      rw [if_pos (.inl rfl), hp]
      exact h
    · obtain ⟨p, hp, h⟩ := mutX_ok (K := fun o' r => K (.val r) (e1.set i (some (.io, o')))) h
      rw [if_pos (.inr rfl), hp]
      exact h
/-- a caught exception's name goes -/
def handG (s : Slot) (k : Slot → Unit → Prop) : Prop := match s with
  | some (.sh, _) => k none ()
  | _ => False
def handW (i : Nat) (e : En) (K : En → Prop) : Prop := setAt e i handG fun e _ => K e
theorem handW_ok {i : Nat} {e : En} {K : En → Prop} (h : handW i e K) : ∃ t, e[i]? = some (some (.sh, t)) ∧ K (e.set i none) := by
  obtain ⟨s, es, h⟩ := setAt_ok h
  rcases s with _ | ⟨f, t⟩
  · exact h.elim
  · cases f <;> first | exact h.elim | exact ⟨t, es, h⟩
/-! ### flows -/
def seqK (w : En → (Fw → En → Prop) → XW → Prop) (K : Fw → En → Prop) (X : XW) (f : Fw) (e : En) : Prop := match f with
  | .next => w e K X
  | .brk => K .brk e
  | .ret o => K (.ret o) e
def loopK (ws : List Nat) (N : En → Prop) (K : Fw → En → Prop) (f : Fw) (e : En) : Prop := match f with
  | .next => wipeW ws e N
  | .brk => wipeW ws e fun e => K .next e
  | .ret o => K (.ret o) e
@[irreducible] def ForW (ws : List Nat) (asg : T → M Unit) (body : M Fw) (ts : List T) (env : En) (K : Fw → En → Prop) (X : XW) : Prop := RS (forL ws asg body ts env) K X
@[irreducible] def WhlW (ws : List Nat) (test : M Bool) (body : M Fw) (env : En) (K : Fw → En → Prop) (X : XW) : Prop := RS (whileL ws test body env) K X
@[irreducible] def LcW (own : List Nat) (asg : T → M Unit) (cond : Option (M Bool)) (elt : M Out) (ts : List T) (env : En) (K : List T → En → Prop) (X : XW) : Prop := RS (inBlk own (lcL own asg cond elt [] ts) env) K X
def isiW (Φ : Ft) (t : T) (k : Kl) (A B : Prop) : Prop := match isiT Φ t k with
  | some true => A
  | some false => B
  | none => False
theorem isiW_ok {Φ : Ft} {t : T} {k : Kl} {A B : Prop} (h : isiW Φ t k A B) : ∃ r, isiT Φ t k = some r ∧ (r = true → A) ∧ (r = false → B) := by
  unfold isiW at h
  split at h
  · rename_i e; exact ⟨true, e, (fun _ => h), fun z => by cases z⟩
  · rename_i e; exact ⟨false, e, (fun z => by cases z), fun _ => h⟩
  · exact h.elim
end VL

set_option maxHeartbeats 4000000
namespace VL
open PySem PySem.Spec PyProof.Rows L2
section
variable (Φ : Ft)
mutual
def wE : C → En → (Out → En → Prop) → XW → Prop
  | .slot i => fun env K X => match env[i]? with
    | some (some (.sh, t)) => K (.val t) env
    | some (some (.own, t)) => K (.val t) (env.set i (some (.sh, t)))
    | _ => False
  | .cst t => fun env K X => K (.val t) env
  | .bin op a b => fun env K X => wOp a (wE a) env (fun x e1 => wOp b (wE b) e1 (fun y e2 => opW e2 x fun t => opW e2 y fun u => binW op t u fun o => K o e2) X) X
  | .neg a => fun env K X => wOp a (wE a) env (fun x e1 => opW e1 x fun t => intW t fun i => K (.val (.int (-i))) e1) X
  | .nt a => fun env K X => wOp a (wE a) env (fun x e1 => opW e1 x fun t => blW t fun b => K (.val (.bl (!b))) e1) X
  | .and a b => fun env K X => wOp a (wE a) env (fun x e1 => opW e1 x fun t => blW t fun k => (k = true → wE b e1 K X) ∧ (k = false → K (.val (.bl false)) e1)) X
  | .or a b => fun env K X => wOp a (wE a) env (fun x e1 => opW e1 x fun t => blW t fun k => (k = true → K (.val (.bl true)) e1) ∧ (k = false → wE b e1 K X)) X
  | .cmp op a b => fun env K X => wOp a (wE a) env (fun x e1 => wOp b (wE b) e1 (fun y e2 => opW e2 x fun t => opW e2 y fun u => cmpV op t u fun k => K (.val (.bl k)) e2) X) X
  | .chain op op' a b c => fun env K X => wOp a (wE a) env (fun x e1 => wOp b (wE b) e1 (fun y e2 => opW e2 x fun t => opW e2 y fun u => cmpW op t u
      (wOp c (wE c) e2 (fun z e3 => opW e3 y fun u => opW e3 z fun v => cmpV op' u v fun k => K (.val (.bl k)) e3) X) (K (.val (.bl false)) e2)) X) X
  | .isN a => fun env K X => wOp a (wE a) env (fun x e1 => opW e1 x fun t => K (.val (.bl (match t with
    | .non => true
    | _ => false))) e1) X
  | .notN a => fun env K X => wOp a (wE a) env (fun x e1 => opW e1 x fun t => K (.val (.bl (match t with
    | .non => false
    | _ => true))) e1) X
  | .fn f args => fun env K X => ∃ F, Φ.fn f = some F ∧ wArg F.pk args (wL args) env (fun os e => wCall F e os K X) X
  | .fno f a args => fun env K X => ∃ F, Φ.fn f = some F ∧ wE a env (fun o e0 => ownW o fun t => wArg F.pk.tail args (wL args) e0 (fun os e => wCallO F t e os K X) X) X
  | .mk c args => fun env K X => ∃ fn, Φ.mkf c = some fn ∧ wVals (wL args) env (fun ts e => ts.length = fn.length ∧ K (.val (.ins c fn ts)) e) X
  | .bi b args => fun env K X => wOps args (wL args) env (fun os e => opsW e os fun ts => biW b ts fun o => K o e) X
  | .isi a k => fun env K X => wOp a (wE a) env (fun x e1 => opW e1 x fun t => ∃ r, isiT Φ t k = some r ∧ K (.val (.bl r)) e1) X
  | .meth m o args => fun env K X => wOp o (wE o) env (fun x e1 => opW e1 x fun t => match t with
    | .str z => wOps args (wL args) e1 (fun os e => opsW e os fun ts => ∃ o, methT m (.str z) ts = some o ∧ K o e) X
    | _ => False) X
  | .lix o a => fun env K X => wOp o (wE o) env (fun x e1 => opW e1 x fun t => isLst t = true ∧ wOps [a] [wE a] e1 (fun os e => opW e x fun t => opsW e os fun ts => ∃ o, lixK t ts = some o ∧ K o e) X) X
  | .mu m i args => fun env K X => mutW m i (wVals (wL args)) env K X
  | .ometh o m args => fun env K X => wOp o (wE o) env (fun x e1 => opW e1 x fun t => match t with
    | .ins c fn fv => ∃ F, Φ.me c m = some F ∧ look m fn fv = none ∧ wArg F.pk.tail args (wL args) e1 (fun ys e2 => wCall F e2 (x :: ys) K X) X
    | _ => False) X
  | .ix a b => fun env K X => wOp a (wE a) env (fun x e1 => wOp b (wE b) e1 (fun y e2 => opW e2 x fun t => opW e2 y fun u => ∃ r, ixT t u = some r ∧ K (.val r) e2) X) X
  | .sl a lo hi => fun env K X => wOp a (wE a) env (fun x e1 => wP lo e1 (fun l e2 => wP hi e2 (fun h e3 => opW e3 x fun t => ∃ o, slT t l h = some o ∧ K o e3) X) X) X
  | .rev a => fun env K X => wOp a (wE a) env (fun x e1 => opW e1 x fun t => ∃ o, revT t = some o ∧ K o e1) X
  | .lst es => fun env K X => wVals (wL es) env (fun ts e => limW es 400 (K (.own (.lst ts)) e)) X
  | .tup es => fun env K X => wVals (wL es) env (fun ts e => limW es 400 (K (.val (.tup ts)) e)) X
  | .dic tk => fun env K X => K (.own (if tk then .dtt [] [] else .dct [] [])) env
  | .dicE i => fun env K _ => ∃ k, env[i]? = some (some (.sh, .int k)) ∧ K (.own (.dct [.int k] [.lst []])) env
  | .din neg a i => fun env K X => wOp a (wE a) env (fun x e1 => wSlotO i e1 fun y e2 => opW e2 x fun k => opW e2 y fun d => ∃ r, inD d k = some r ∧ K (.val (.bl (neg != r))) e2) X
  | .dget i b => fun env K X => wSlotO i env fun x e1 => wOp b (wE b) e1 (fun y e2 => opW e2 x fun d => opW e2 y fun k => ∃ r, getD' d k = some r ∧ K (.val r) e2) X
  | .lc elt it tg cond own => fun env K X => wI it env (fun w e1 => LcW own (evG Φ tg) (evC Φ cond) (evE Φ elt) w.1 (lock e1 w.2) (fun ts e2 => K (.own (.lst ts)) (unlock e2 w.2)) X) X
  | .fld a f => fun env K X => wOp a (wE a) env (fun x e1 => opW e1 x fun t => ∃ r, fldT Φ f t = some r ∧ K (.val r) e1) X
def wT : C → En → (En → Prop) → (En → Prop) → XW → Prop
  | .nt a => fun env A B X => wT a env B A X
  | .and a b => fun env A B X => wT a env (fun e1 => wT b e1 A B X) B X
  | .or a b => fun env A B X => wT a env A (fun e1 => wT b e1 A B X) X
  | .slot i => fun env A B X => wSlotO i env fun x e1 => opW e1 x fun t => truW t (A e1) (B e1)
  | .cst t => fun env A B X => truW t (A env) (B env)
  | .bin op a b => fun env A B X => wOp a (wE a) env (fun x e1 => wOp b (wE b) e1 (fun y e2 => opW e2 x fun t => opW e2 y fun u => binW op t u fun o => truW o.t (A e2) (B e2)) X) X
  | .cmp op a b => fun env A B X => wOp a (wE a) env (fun x e1 => wOp b (wE b) e1 (fun y e2 => opW e2 x fun t => opW e2 y fun u => cmpW op t u (A e2) (B e2)) X) X
  | .chain op op' a b c => fun env A B X => wOp a (wE a) env (fun x e1 => wOp b (wE b) e1 (fun y e2 => opW e2 x fun t => opW e2 y fun u => cmpW op t u
      (wOp c (wE c) e2 (fun z e3 => opW e3 y fun u => opW e3 z fun v => cmpW op' u v (A e3) (B e3)) X) (B e2)) X) X
  | .isN a => fun env A B X => wOp a (wE a) env (fun x e1 => opW e1 x fun t => match t with
    | .non => A e1
    | _ => B e1) X
  | .notN a => fun env A B X => wOp a (wE a) env (fun x e1 => opW e1 x fun t => match t with
    | .non => B e1
    | _ => A e1) X
  | .fn f args => fun env A B X => ∃ F, Φ.fn f = some F ∧ wArg F.pk args (wL args) env (fun os e => wCall F e os (fun o e2 => truW o.t (A e2) (B e2)) X) X
  | .bi b args => fun env A B X => wOps args (wL args) env (fun os e => opsW e os fun ts => biW b ts fun o => truW o.t (A e) (B e)) X
  | .din neg a i => fun env A B X => wOp a (wE a) env (fun x e1 => wSlotO i e1 fun y e2 => opW e2 x fun k => opW e2 y fun d => ∃ r, inD d k = some r ∧ ((neg != r) = true → A e2) ∧ ((neg != r) = false → B e2)) X
  | .isi a k => fun env A B X => wOp a (wE a) env (fun x e1 => opW e1 x fun t => isiW Φ t k (A e1) (B e1)) X
  | .ix a b => fun env A B X => wOp a (wE a) env (fun x e1 => wOp b (wE b) e1 (fun y e2 => opW e2 x fun t => opW e2 y fun u => ∃ r, ixT t u = some r ∧ truW r (A e2) (B e2)) X) X
  | _ => fun _ _ _ _ => False
def wL : List C → List WE
  | [] => []
  | c :: cs => wE c :: wL cs
def wP : Option C → En → (Option Int → En → Prop) → XW → Prop
  | none => fun env K X => K none env
  | some c => fun env K X => wOp c (wE c) env (fun x e1 => opW e1 x fun t => intW t fun i => K (some i) e1) X
def wI : It → En → (List T × List Nat → En → Prop) → XW → Prop
  | .c a => fun env K X => wOp a (wE a) env (fun x e1 => walkW e1 x fun w => K w e1) X
  | .range1 a => fun env K X => wOp a (wE a) env (fun x e1 => opW e1 x fun t => intW t fun j => okR j = true ∧ K (rangeT 0 j, []) e1) X
  | .range2 a b => fun env K X => wOp a (wE a) env (fun x e1 => wOp b (wE b) e1 (fun y e2 => opW e2 x fun t => opW e2 y fun u => intW t fun i => intW u fun j => (okR i = true ∧ okR j = true) ∧ K (rangeT i j, []) e2) X) X
  | .range3 a b c => fun env K X => wOp a (wE a) env (fun x e1 => wOp b (wE b) e1 (fun y e2 => wOp c (wE c) e2 (fun z e3 => opW e3 x fun t => opW e3 y fun u => opW e3 z fun v => intW t fun i => intW u fun j => intW v fun k => (okR i && okR j && decide (0 < k) && decide (k < 1000000)) = true ∧ K (rangeS i j k, []) e3) X) X) X
  | .enum a => fun env K X => wOp a (wE a) env (fun x e1 => seqO e1 x = true ∧ walkW e1 x fun w => K (enumT w.1, w.2) e1) X
  | .zip a b => fun env K X => wOp a (wE a) env (fun x e1 => wOp b (wE b) e1 (fun y e2 => (lstO e2 x = true ∧ lstO e2 y = true) ∧ walkW e2 x fun w => walkW e2 y fun v => K (zipT w.1 v.1, w.2 ++ v.2) e2) X) X
def wG : Tg → T → En → (En → Prop) → XW → Prop
  | .name i => fun t env K X => setW i (.val t) env K
  | .sub i c => fun t env K X => subW i (wOp c (wE c)) t env K X
  | .tup gs => fun t env K X => match itemsT t with
    | some xs => xs.length = gs.length ∧ wGs gs xs env K X
    | none => False
def wGs : List Tg → List T → En → (En → Prop) → XW → Prop
  | [] => fun ts env K X => match ts with
    | [] => K env
    | _ => False
  | g :: gs => fun ts env K X => match ts with
    | t :: ts => wG g t env (fun e1 => wGs gs ts e1 K X) X
    | [] => False
end
mutual
def wS : S → En → (Fw → En → Prop) → XW → Prop
  | .asg (.name i) e => fun env K X => wE Φ e env (fun o e1 => setW i o e1 fun e2 => K .next e2) X
  | .asg g e => fun env K X => wE Φ e env (fun o e1 => wG Φ g o.t e1 (fun e2 => K .next e2) X) X
  | .par i j a b => fun env K X => wVals (wL Φ [a, b]) env (fun ts e1 => match ts with
    | [t, u] => i ≠ j ∧ setW i (.val t) e1 fun e2 => setW j (.val u) e2 fun e3 => K .next e3
    | _ => False) X
  | .ex e => fun env K X => wE Φ e env (fun _ e1 => K .next e1) X
  | .iff t a b => fun env K X => wT Φ t env (fun e1 => wSs a e1 K X) (fun e1 => wSs b e1 K X) X
  | .forr g it body ws => fun env K X => wI Φ it env (fun w e1 => ForW ws (evG Φ g) (evSs Φ body) w.1 (lock e1 w.2) (fun f e2 => K f (unlock e2 w.2)) X) X
  | .whl t body ws => fun env K X => WhlW ws (evT Φ t) (evSs Φ body) env K X
  | .ret (.slot i) => fun env K X => match env[i]? with
    | some (some (.sh, t)) => K (.ret (.val t)) env
    | some (some (.own, t)) => K (.ret (.own t)) (env.set i none)
    | _ => False
  | .ret e => fun env K X => wE Φ e env (fun o e1 => K (.ret o) e1) X
  | .retN => fun env K X => K (.ret (.val .non)) env
  | .raise c args => fun env K X => match Φ.ex c with
    | some fs => args.length = fs.length ∧ wVals (wL Φ args) env (fun ts e1 => ts.length = fs.length ∧ X (.exc c fs ts) e1) X
    | none => False
  | .brk => fun env K X => K .brk env
  | .pass => fun env K X => K .next env
  | .tryAs body cls i j => fun env K X => wSs body env K fun x e1 => match catX Φ cls x with
    | some true => i ≠ j ∧ setW i (.val x) e1 fun e2 => setW j (.val x) e2 fun e3 => K .next (e3.set i none)
    | some false => X x e1
    | none => False
  | .tryH body cls i hd => fun env K X => wSs body env K fun x e1 => match catX Φ cls x with
    | some true => setW i (.val x) e1 fun e2 => wSs hd e2 (fun f e3 => match f with
      | .next => handW i e3 (K .next)
      | _ => False) fun _ _ => False
    | some false => X x e1
    | none => False
  | .tryRet body cls a b => fun env K X => wSs body env (fun f e1 => match f with
    | .next => wE Φ b e1 (fun o e2 => K (.ret o) e2) X
    | _ => False) fun x e1 => match catX Φ cls x with
    | some true => wE Φ a e1 (fun o e2 => K (.ret o) e2) X
    | some false => X x e1
    | none => False
def wSs : List S → En → (Fw → En → Prop) → XW → Prop
  | [] => fun env K X => K .next env
  | s :: ss => fun env K X => wS s env (seqK (wSs ss) K X) X
end
end
end VL

set_option maxHeartbeats 4000000
namespace VL
open PySem PySem.Spec PyProof.Rows L2
def Good (w : WE) (m : M Out) : Prop := ∀ (env : En) (K : Out → En → Prop) (X : XW), w env K X → RS (m env) K X
inductive GoodL : List WE → List (M Out) → Prop
  | nil : GoodL [] []
  | cons {w m ws ms} : Good w m → GoodL ws ms → GoodL (w :: ws) (m :: ms)
theorem wSlotO_ok {i : Nat} {env : En} {K : Opnd → En → Prop} {X : XW} (h : wSlotO i env K) : RS (slotO i env) K X := by
  unfold wSlotO at h
  unfold slotO
  split at h
  · rename_i s e; (try simp only [e]); exact h
  · exact h.elim
theorem wOp_ok {c : C} {w : WE} {m : M Out} (g : Good w m) {env : En} {K : Opnd → En → Prop} {X : XW} (h : wOp c w env K X) : RS (opnd c m env) K X := by
  cases c with
  | slot i => exact wSlotO_ok h
  | _ => exact RS.bind (g _ _ _ h)
theorem wVals_ok : ∀ {ws : List WE} {ms : List (M Out)}, GoodL ws ms → ∀ {env : En} {K : List T → En → Prop} {X : XW}, wVals ws env K X → RS (vals ms env) K X
  | _, _, .nil, env, K, X, h => h
  | _, _, .cons g gs, env, K, X, h => RS.bind (RS.mono (g _ _ _ h) (fun o e h => RS.bind (RS.mono (wVals_ok gs h) (fun ts e2 h => h) fun _ _ h => h)) fun _ _ h => h)
theorem wOps_ok : ∀ {cs : List C} {ws : List WE} {ms : List (M Out)}, GoodL ws ms → ∀ {env : En} {K : List Opnd → En → Prop} {X : XW}, wOps cs ws env K X → RS (opnds cs ms env) K X
  | [], _, _, .nil, env, K, X, h => h
  | _ :: _, _, _, .nil, env, K, X, h => h
  | [], _, _, .cons _ _, env, K, X, h => h
  | c :: cs, _, _, .cons g gs, env, K, X, h => RS.bind (RS.mono (wOp_ok g h) (fun o e h => RS.bind (RS.mono (wOps_ok gs h) (fun ts e2 h => h) fun _ _ h => h)) fun _ _ h => h)
theorem wArg_ok : ∀ {ps : List Pk} {cs : List C} {ws : List WE} {ms : List (M Out)}, GoodL ws ms → ∀ {env : En} {K : List Opnd → En → Prop} {X : XW}, wArg ps cs ws env K X → RS (argO ps cs ms env) K X
  | [], [], _, _, .nil, env, K, X, h => h
  | [], _ :: _, _, _, .nil, env, K, X, h => h
  | [], [], _, _, .cons _ _, env, K, X, h => h
  | [], _ :: _, _, _, .cons _ _, env, K, X, h => h
  | .rd :: _, [], _, _, .nil, env, K, X, h => h
  | .rd :: _, _ :: _, _, _, .nil, env, K, X, h => h
  | .rd :: _, [], _, _, .cons _ _, env, K, X, h => h
  | .io :: _, [], _, _, .nil, env, K, X, h => h
  | .io :: _, _ :: _, _, _, .nil, env, K, X, h => h
  | .io :: _, [], _, _, .cons _ _, env, K, X, h => h
  | .es :: _, [], _, _, .nil, env, K, X, h => h
  | .es :: _, _ :: _, _, _, .nil, env, K, X, h => h
  | .es :: _, [], _, _, .cons _ _, env, K, X, h => h
  | .rd :: ps, c :: cs, _, _, .cons g gs, env, K, X, h => RS.bind (RS.mono (wOp_ok g h) (fun o e h => RS.bind (RS.mono (wArg_ok gs h) (fun ts e2 h => h) fun _ _ h => h)) fun _ _ h => h)
  | .io :: ps, c :: cs, _, _, .cons g gs, env, K, X, h => RS.bind (RS.mono (wOp_ok g h) (fun o e h => RS.bind (RS.mono (wArg_ok gs h) (fun ts e2 h => h) fun _ _ h => h)) fun _ _ h => h)
  | .es :: ps, c :: cs, _, _, .cons g gs, env, K, X, h => RS.bind (RS.mono (g _ _ _ h) (fun o e h => RS.bind (RS.mono (wArg_ok gs h) (fun ts e2 h => h) fun _ _ h => h)) fun _ _ h => h)
theorem wCall_ok {F : Fn} {env : En} {ops : List Opnd} {K : Out → En → Prop} {X : XW} (h : wCall F env ops K X) : RS (match argvs env F.pk ops with
  | none => .stuck
  | some a => match F.run a.md a.ts with
    | .ok o outs => match writeB env a.md ops outs with
      | some env2 => .ok o env2
      | none => .stuck
    | .exc x outs => match writeB env a.md ops outs with
      | some env2 => .exc x env2
      | none => .stuck
    | .stuck => .stuck) K X := by
  obtain ⟨a, ha, r, hr, h⟩ := argW_ok h
  rw [ha]
  dsimp only
  rw [hr]
  cases r with
  | ok o outs => obtain ⟨e2, he, h⟩ := wbW_ok h; dsimp only; rw [he]; exact h
  | exc o outs => obtain ⟨e2, he, h⟩ := wbW_ok h; dsimp only; rw [he]; exact h
  | stuck => exact h.elim
theorem callF_ok' {F : Fn} {m : M (List Opnd)} {env : En} {K : Out → En → Prop} {X : XW} (h : RS (m env) (fun os e => wCall F e os K X) X) : RS (callF F m env) K X := by
  unfold callF
  exact RS.bind (RS.mono h (fun os e h => wCall_ok h) fun _ _ h => h)
theorem un1_ok' {m : M Opnd} {f : T → Option Out} {env : En} {K : Out → En → Prop} {X : XW} (h : RS (m env) (fun x e => opW e x fun t => ∃ o, f t = some o ∧ K o e) X) : RS (un1 m f env) K X := by
  unfold un1
  refine RS.bind (RS.mono h (fun x e h => ?_) fun _ _ h => h)
  obtain ⟨t, ht, o, ho, h⟩ := opW_ok h
  exact RS.opt ⟨o, by rw [ht]; exact ho, h⟩
theorem un2_ok' {m n : M Opnd} {f : T → T → Option Out} {env : En} {K : Out → En → Prop} {X : XW} (h : RS (m env) (fun x e1 => RS (n e1) (fun y e2 => opW e2 x fun t => opW e2 y fun u => ∃ o, f t u = some o ∧ K o e2) X) X) : RS (un2 m n f env) K X := by
  unfold un2
  refine RS.bind (RS.mono h (fun x e h => RS.bind (RS.mono h (fun y e2 h => ?_) fun _ _ h => h)) fun _ _ h => h)
  obtain ⟨t, ht, h⟩ := opW_ok h
  obtain ⟨u, hu, o, ho, h⟩ := opW_ok h
  exact RS.opt ⟨o, by rw [ht, hu]; exact ho, h⟩
theorem unL_ok' {m : M (List Opnd)} {f : List T → Option Out} {env : En} {K : Out → En → Prop} {X : XW} (h : RS (m env) (fun x e => opsW e x fun t => ∃ o, f t = some o ∧ K o e) X) : RS (unL m f env) K X := by
  unfold unL
  refine RS.bind (RS.mono h (fun x e h => ?_) fun _ _ h => h)
  obtain ⟨t, ht, o, ho, h⟩ := opsW_ok h
  exact RS.opt ⟨o, by rw [ht]; exact ho, h⟩
theorem opW_mono {env : En} {x : Opnd} {K K' : T → Prop} (h : opW env x K) (k : ∀ t, K t → K' t) : opW env x K' := by
  obtain ⟨t, e, h⟩ := opW_ok h
  cases x with
  | val u => cases e; exact k _ h
  | slot i =>
    cases q : env[i]? with
    | none => simp [opW, q] at h
    | some s =>
      cases s with
      | none => simp [opW, q] at h
      | some p => simp only [opW, q] at h ⊢; exact k _ h
theorem opsW_mono {env : En} : ∀ {x : List Opnd} {K K' : List T → Prop}, opsW env x K → (∀ t, K t → K' t) → opsW env x K'
  | [], K, K', h, k => k _ h
  | o :: os, K, K', h, k => opW_mono (K := fun t => opsW env os fun ts => K (t :: ts)) h fun t h => opsW_mono h fun ts h => k _ h
theorem blW_ok {t : T} {K : Bool → Prop} (h : blW t K) : ∃ k, t = .bl k ∧ K k := by
  cases t <;> first | exact ⟨_, rfl, h⟩ | exact h.elim
theorem intW_ok {t : T} {K : Int → Prop} (h : intW t K) : ∃ k, t = .int k ∧ K k := by
  cases t <;> first | exact ⟨_, rfl, h⟩ | exact h.elim
/-- a test by a truth -/
theorem tst_ok {o : Option Bool} {A B : Prop} {env : En} {K : Bool → En → Prop} {X : XW} (h : ∃ k, o = some k ∧ (k = true → K true env) ∧ (k = false → K false env)) : RS (optO o env) K X := by
  obtain ⟨k, e, h1, h2⟩ := h
  refine RS.opt ⟨k, e, ?_⟩
  cases k
  · exact h2 rfl
  · exact h1 rfl
def kT (A B : En → Prop) : Bool → En → Prop := fun b e => (b = true → A e) ∧ (b = false → B e)
theorem kT_t {A B : En → Prop} {e : En} (h : A e) : kT A B true e := ⟨fun _ => h, fun z => by cases z⟩
theorem kT_f {A B : En → Prop} {e : En} (h : B e) : kT A B false e := ⟨fun z => (by cases z), fun _ => h⟩
theorem kT_of {A B : En → Prop} {e : En} {k : Bool} (h : (k = true → A e) ∧ (k = false → B e)) : kT A B k e := h
theorem opt_k {o : Option Bool} {A B : En → Prop} {env : En} {X : XW} (h : ∃ k, o = some k ∧ (k = true → A env) ∧ (k = false → B env)) : RS (optO o env) (kT A B) X := by
  obtain ⟨k, e, h⟩ := h
  exact RS.opt ⟨k, e, h⟩
theorem tru1_ok' {m : M Opnd} {env : En} {A B : En → Prop} {X : XW} (h : RS (m env) (fun x e => opW e x fun t => truW t (A e) (B e)) X) : RS (tru1 m env) (kT A B) X := by
  unfold tru1
  refine RS.bind (RS.mono h (fun x e h => ?_) fun _ _ h => h)
  obtain ⟨t, ht, h⟩ := opW_ok h
  obtain ⟨k, hk, h⟩ := truW_ok h
  exact opt_k ⟨k, by rw [ht]; exact hk, h⟩
theorem opnd_tru {c : C} {m : M Out} {env : En} {A B : En → Prop} {X : XW} (hc : ∀ i, c ≠ .slot i) (h : RS (m env) (fun o e => truW o.t (A e) (B e)) X) : RS (tru1 (opnd c m) env) (kT A B) X := by
  refine tru1_ok' ?_
  cases c with
  | slot i => exact absurd rfl (hc i)
  | _ => exact RS.bind h
theorem setSub_ok' {i : Nat} {w : En → (Opnd → En → Prop) → XW → Prop} {m : M Opnd} (g : ∀ {env : En} {K : Opnd → En → Prop} {X : XW}, w env K X → RS (m env) K X) {v : T} {env : En} {K : En → Prop} {X : XW} (h : subW i w v env K X) : RS (setSub i m v env) (fun _ e => K e) X := by
  unfold subW at h
  unfold setSub
  split at h
  · rename_i s e
    (try simp only [e])
    refine RS.bind (RS.mono (g h) (fun x e1 h => ?_) fun _ _ h => h)
    obtain ⟨k, hk, h⟩ := opW_ok h
    obtain ⟨s, e2, h⟩ := setAt_ok h
    rw [hk, e2]
    rcases s with _ | ⟨f, o⟩
    · exact h.elim
    · cases f <;> first | exact h.elim | skip
      · obtain ⟨o', ho, h⟩ := h
        simp only [true_or, if_true]
        rw [ho]
        exact h
      · obtain ⟨o', ho, h⟩ := h
        simp only [or_true, if_true]
        rw [ho]
        exact h
  · exact h.elim
theorem mutW_ok {m : Mm} {i : Nat} {ws : List WE} {ms : List (M Out)} (g : GoodL ws ms) {env : En} {K : Out → En → Prop} {X : XW} (h : mutW m i (wVals ws) env K X) : RS (mutS m i (vals ms) env) K X := by
  unfold mutW at h
  unfold mutS
  split at h
  · rename_i xs e
    (try simp only [e])
    exact RS.bind (RS.mono (wVals_ok g h) (fun ts e1 h => mutW2_ok h) fun _ _ h => h)
  · rename_i xs e
    (try simp only [e])
    exact RS.bind (RS.mono (wVals_ok g h) (fun ts e1 h => mutW2_ok h) fun _ _ h => h)
  · exact h.elim
theorem evL_length {Φ : Ft} : ∀ es : List C, (evL Φ es).length = es.length
  | [] => by simp only [evL]; rfl
  | e :: es => by simp only [evL, List.length_cons, evL_length es]
theorem wVals_len {ws : List WE} {ms : List (M Out)} (g : GoodL ws ms) {env : En} {K : List T → En → Prop} {X : XW} (h : wVals ws env K X) : RS (vals ms env) (fun ts e => ts.length = ms.length ∧ K ts e) X := by
  have r := wVals_ok g h
  cases q : vals ms env with
  | stuck => rw [q] at r; exact r.elim
  | exc x e => rw [q] at r; exact r
  | ok ts e => rw [q] at r; exact ⟨vals_len q, r⟩
section
variable (Φ : Ft)
def GE (c : C) : Prop := ∀ (env : En) (K : Out → En → Prop) (X : XW), wE Φ c env K X → RS (evE Φ c env) K X
def GT (c : C) : Prop := ∀ (env : En) (A B : En → Prop) (X : XW), wT Φ c env A B X → RS (evT Φ c env) (kT A B) X
theorem gOp {c : C} (g : GE Φ c) {env : En} {K : Opnd → En → Prop} {X : XW} (h : wOp c (wE Φ c) env K X) : RS (opnd c (evE Φ c) env) K X := wOp_ok g h
mutual
theorem gE : ∀ c : C, GE Φ c
  | .slot i => fun env K X h => by
    simp only [wE] at h
    simp only [evE]
    unfold slotE
    split at h
    · rename_i t e; (try simp only [e]); exact h
    · rename_i t e; (try simp only [e]); exact h
    · exact h.elim
  | .cst t => fun env K X h => by simp only [wE] at h; simp only [evE]; exact h
  | .bin op a b => fun env K X h => by
    simp only [wE] at h
    simp only [evE]
    exact un2_ok' (RS.mono (gOp Φ (gE a) h) (fun x e h => RS.mono (gOp Φ (gE b) h) (fun y e2 h => opW_mono h fun t h => opW_mono h fun u h => binW_ok h) fun _ _ h => h) fun _ _ h => h)
  | .neg a => fun env K X h => by
    simp only [wE] at h
    simp only [evE]
    refine un1_ok' (RS.mono (gOp Φ (gE a) h) (fun x e h => opW_mono h fun t h => ?_) fun _ _ h => h)
    obtain ⟨k, rfl, h⟩ := intW_ok h
    exact ⟨_, rfl, h⟩
  | .nt a => fun env K X h => by
    simp only [wE] at h
    simp only [evE]
    refine un1_ok' (RS.mono (gOp Φ (gE a) h) (fun x e h => opW_mono h fun t h => ?_) fun _ _ h => h)
    obtain ⟨k, rfl, h⟩ := blW_ok h
    exact ⟨_, rfl, h⟩
  | .and a b => fun env K X h => by
    simp only [wE] at h
    simp only [evE]
    refine RS.bind (RS.mono (gOp Φ (gE a) h) (fun x e h => ?_) fun _ _ h => h)
    obtain ⟨t, ht, h⟩ := opW_ok h
    obtain ⟨k, rfl, h⟩ := blW_ok h
    rw [ht]
    cases k with
    | true => exact gE b _ _ _ (h.1 rfl)
    | false => exact h.2 rfl
  | .or a b => fun env K X h => by
    simp only [wE] at h
    simp only [evE]
    refine RS.bind (RS.mono (gOp Φ (gE a) h) (fun x e h => ?_) fun _ _ h => h)
    obtain ⟨t, ht, h⟩ := opW_ok h
    obtain ⟨k, rfl, h⟩ := blW_ok h
    rw [ht]
    cases k with
    | true => exact h.1 rfl
    | false => exact gE b _ _ _ (h.2 rfl)
  | .cmp op a b => fun env K X h => by
    simp only [wE] at h
    simp only [evE]
    refine un2_ok' (RS.mono (gOp Φ (gE a) h) (fun x e h => RS.mono (gOp Φ (gE b) h) (fun y e2 h => opW_mono h fun t h => opW_mono h fun u h => ?_) fun _ _ h => h) fun _ _ h => h)
    obtain ⟨k, hk, h⟩ := cmpV_ok h
    exact ⟨_, by rw [hk]; rfl, h⟩
  | .chain op op' a b c => fun env K X h => by
    simp only [wE] at h
    simp only [evE]
    refine RS.bind (RS.mono (gOp Φ (gE a) h) (fun x e h => RS.bind (RS.mono (gOp Φ (gE b) h) (fun y e2 h => ?_) fun _ _ h => h)) fun _ _ h => h)
    obtain ⟨t, ht, h⟩ := opW_ok h
    obtain ⟨u, hu, h⟩ := opW_ok h
    obtain ⟨k, hk, h⟩ := cmpW_ok h
    simp only [ht, hu, Option.bind_some, hk]
    cases k with
    | true =>
      refine RS.bind (RS.mono (gOp Φ (gE c) (h.1 rfl)) (fun z e3 h => ?_) fun _ _ h => h)
      obtain ⟨u', hu', h⟩ := opW_ok h
      obtain ⟨v, hv, h⟩ := opW_ok h
      obtain ⟨k, hk, h⟩ := cmpV_ok h
      exact RS.opt ⟨_, by simp only [hu', hv, Option.bind_some, hk]; rfl, h⟩
    | false => exact h.2 rfl
  | .isN a => fun env K X h => by
    simp only [wE] at h
    simp only [evE]
    exact un1_ok' (RS.mono (gOp Φ (gE a) h) (fun x e h => opW_mono h fun t h => ⟨_, rfl, h⟩) fun _ _ h => h)
  | .notN a => fun env K X h => by
    simp only [wE] at h
    simp only [evE]
    exact un1_ok' (RS.mono (gOp Φ (gE a) h) (fun x e h => opW_mono h fun t h => ⟨_, rfl, h⟩) fun _ _ h => h)
  | .fn f args => fun env K X h => by
    simp only [wE] at h
    simp only [evE]
    obtain ⟨F, hF, h⟩ := h
    rw [hF]
    exact callF_ok' (wArg_ok (gL args) h)
  | .fno f a args => fun env K X h => by
    simp only [wE] at h
    simp only [evE]
    obtain ⟨F, hF, h⟩ := h
    rw [hF]
    unfold callO
    refine RS.bind (RS.mono (gE a _ _ _ h) (fun o e0 h => ?_) fun _ _ h => h)
    cases o with
    | val t => exact h.elim
    | own t =>
      refine RS.bind (RS.mono (wArg_ok (gL args) (show wArg F.pk.tail args (wL Φ args) e0 _ X from h)) (fun os e h => ?_) fun _ _ h => h)
      exact wCallO_ok h
  | .mk c args => fun env K X h => by
    simp only [wE] at h
    simp only [evE]
    obtain ⟨fn, hf, h⟩ := h
    rw [hf]
    refine RS.bind (RS.mono (wVals_ok (gL args) h) (fun ts e h => ?_) fun _ _ h => h)
    rw [if_pos h.1]
    exact h.2
  | .bi b args => fun env K X h => by
    simp only [wE] at h
    simp only [evE]
    exact unL_ok' (RS.mono (wOps_ok (gL args) h) (fun x e h => opsW_mono h fun ts h => biW_ok h) fun _ _ h => h)
  | .isi a k => fun env K X h => by
    simp only [wE] at h
    simp only [evE]
    refine un1_ok' (RS.mono (gOp Φ (gE a) h) (fun x e h => opW_mono h fun t h => ?_) fun _ _ h => h)
    obtain ⟨r, hr, h⟩ := h
    exact ⟨_, by rw [hr]; rfl, h⟩
  | .meth m o args => fun env K X h => by
    simp only [wE] at h
    simp only [evE]
    refine RS.bind (RS.mono (gOp Φ (gE o) h) (fun x e h => ?_) fun _ _ h => h)
    obtain ⟨t, ht, h⟩ := opW_ok h
    rw [ht]
    split at h
    · refine RS.bind (RS.mono (wOps_ok (gL args) h) (fun os e h => ?_) fun _ _ h => h)
      obtain ⟨ts, hts, o, ho, h⟩ := opsW_ok h
      exact RS.opt ⟨o, by rw [hts]; exact ho, h⟩
    · exact h.elim
  | .lix o a => fun env K X h => by
    simp only [wE] at h
    simp only [evE]
    unfold lixM
    refine RS.bind (RS.mono (gOp Φ (gE o) h) (fun x e h => ?_) fun _ _ h => h)
    obtain ⟨t, ht, hl, h⟩ := opW_ok h
    rw [ht]
    rw [if_pos (show (some t).any isLst = true from hl)]
    refine RS.bind ?_
    unfold opnds
    refine RS.bind (RS.mono (gOp Φ (gE a) (show wOp a _ _ _ _ from h)) (fun o1 e h => ?_) fun _ _ h => h)
    show RS _ _ _
    obtain ⟨t', ht', h⟩ := opW_ok h
    obtain ⟨ts, hts, o, ho, h⟩ := opsW_ok h
    exact RS.opt ⟨o, by rw [ht', hts]; exact ho, h⟩
  | .mu m i args => fun env K X h => by
    simp only [wE] at h
    simp only [evE]
    exact mutW_ok (gL args) h
  | .ometh o m args => fun env K X h => by
    simp only [wE] at h
    simp only [evE]
    refine RS.bind (RS.mono (gOp Φ (gE o) h) (fun x e h => ?_) fun _ _ h => h)
    obtain ⟨t, ht, h⟩ := opW_ok h
    rw [ht]
    split at h
    · obtain ⟨F, hF, hl, h⟩ := h
      dsimp only
      rw [hF, hl]
      exact callF_ok' (RS.bind (RS.mono (wArg_ok (gL args) h) (fun ys e2 h => h) fun _ _ h => h))
    · exact h.elim
  | .ix a b => fun env K X h => by
    simp only [wE] at h
    simp only [evE]
    refine un2_ok' (RS.mono (gOp Φ (gE a) h) (fun x e h => RS.mono (gOp Φ (gE b) h) (fun y e2 h => opW_mono h fun t h => opW_mono h fun u h => ?_) fun _ _ h => h) fun _ _ h => h)
    obtain ⟨k, hk, h⟩ := h
    exact ⟨_, by rw [hk]; rfl, h⟩
  | .sl a lo hi => fun env K X h => by
    simp only [wE] at h
    simp only [evE]
    refine RS.bind (RS.mono (gOp Φ (gE a) h) (fun x e h => RS.bind (RS.mono (gP lo h) (fun l e2 h => RS.bind (RS.mono (gP hi h) (fun u e3 h => ?_) fun _ _ h => h)) fun _ _ h => h)) fun _ _ h => h)
    obtain ⟨t, ht, o, ho, h⟩ := opW_ok h
    exact RS.opt ⟨o, by rw [ht]; exact ho, h⟩
  | .rev a => fun env K X h => by
    simp only [wE] at h
    simp only [evE]
    exact un1_ok' (gOp Φ (gE a) h)
  | .lst es => fun env K X h => by
    simp only [wE] at h
    simp only [evE]
    refine RS.bind (RS.mono (wVals_len (gL es) h) (fun ts e h => ?_) fun _ _ h => h)
    obtain ⟨h1, h2⟩ := limW_ok h.2
    have hl : ts.length ≤ LIM := by rw [h.1, evL_length]; exact Nat.le_trans h1 (by decide)
    rw [if_pos hl]
    exact h2
  | .tup es => fun env K X h => by
    simp only [wE] at h
    simp only [evE]
    refine RS.bind (RS.mono (wVals_len (gL es) h) (fun ts e h => ?_) fun _ _ h => h)
    obtain ⟨h1, h2⟩ := limW_ok h.2
    have hl : ts.length ≤ LIM := by rw [h.1, evL_length]; exact Nat.le_trans h1 (by decide)
    rw [if_pos hl]
    exact h2
  | .dic tk => fun env K X h => by
    simp only [wE] at h
    simp only [evE]
    exact h
  | .dicE i => fun env K X h => by
    simp only [wE] at h
    obtain ⟨k, e, h⟩ := h
    simp only [evE, e]
    exact h
  | .din neg a i => fun env K X h => by
    simp only [wE] at h
    simp only [evE]
    refine un2_ok' (RS.mono (gOp Φ (gE a) h) (fun x e h => RS.mono (wSlotO_ok h) (fun y e2 h => opW_mono h fun t h => opW_mono h fun u h => ?_) fun _ _ h => h) fun _ _ h => h)
    obtain ⟨k, hk, h⟩ := h
    exact ⟨_, by rw [hk]; rfl, h⟩
  | .dget i b => fun env K X h => by
    simp only [wE] at h
    simp only [evE]
    refine un2_ok' (RS.mono (wSlotO_ok h) (fun x e h => RS.mono (gOp Φ (gE b) h) (fun y e2 h => opW_mono h fun t h => opW_mono h fun u h => ?_) fun _ _ h => h) fun _ _ h => h)
    obtain ⟨k, hk, h⟩ := h
    exact ⟨_, by rw [hk]; rfl, h⟩
  | .lc elt it tg cond own => fun env K X h => by
    simp only [wE] at h
    simp only [evE]
    refine RS.bind (RS.mono (gI it h) (fun w e h => ?_) fun _ _ h => h)
    unfold LcW at h
    exact RS.bind (RS.mono h (fun ts e2 h => h) fun _ _ h => h)
  | .fld a f => fun env K X h => by
    simp only [wE] at h
    simp only [evE]
    refine un1_ok' (RS.mono (gOp Φ (gE a) h) (fun x e h => opW_mono h fun t h => ?_) fun _ _ h => h)
    obtain ⟨r, hr, h⟩ := h
    exact ⟨_, by rw [hr]; rfl, h⟩
theorem gL : ∀ cs : List C, GoodL (wL Φ cs) (evL Φ cs)
  | [] => by simp only [wL, evL]; exact .nil
  | c :: cs => by simp only [wL, evL]; exact .cons (gE c) (gL cs)
theorem gP : ∀ (c : Option C) {env : En} {K : Option Int → En → Prop} {X : XW}, wP Φ c env K X → RS (evP Φ c env) K X
  | none, env, K, X, h => by simp only [wP] at h; simp only [evP]; exact h
  | some c, env, K, X, h => by
    simp only [wP] at h
    simp only [evP]
    refine RS.bind (RS.mono (gOp Φ (gE c) h) (fun x e h => ?_) fun _ _ h => h)
    obtain ⟨t, ht, h⟩ := opW_ok h
    obtain ⟨k, rfl, h⟩ := intW_ok h
    exact RS.opt ⟨some k, by unfold intO; rw [ht]; rfl, h⟩
theorem gI : ∀ (it : It) {env : En} {K : List T × List Nat → En → Prop} {X : XW}, wI Φ it env K X → RS (evI Φ it env) K X
  | .c a, env, K, X, h => by
    simp only [wI] at h
    simp only [evI]
    refine RS.bind (RS.mono (gOp Φ (gE a) h) (fun x e h => ?_) fun _ _ h => h)
    obtain ⟨w, hw, h⟩ := h
    exact RS.opt ⟨w, hw, h⟩
  | .range1 a, env, K, X, h => by
    simp only [wI] at h
    simp only [evI]
    refine RS.bind (RS.mono (gOp Φ (gE a) h) (fun x e h => ?_) fun _ _ h => h)
    obtain ⟨t, ht, h⟩ := opW_ok h
    obtain ⟨k, rfl, h1, h⟩ := intW_ok h
    exact RS.opt ⟨_, by unfold intO; rw [ht]; simp only [Option.bind_some, h1, if_true], h⟩
  | .range2 a b, env, K, X, h => by
    simp only [wI] at h
    simp only [evI]
    refine RS.bind (RS.mono (gOp Φ (gE a) h) (fun x e h => RS.bind (RS.mono (gOp Φ (gE b) h) (fun y e2 h => ?_) fun _ _ h => h)) fun _ _ h => h)
    obtain ⟨t, ht, h⟩ := opW_ok h
    obtain ⟨u, hu, h⟩ := opW_ok h
    obtain ⟨i, et, h4⟩ := intW_ok h
    obtain ⟨j, eu, ⟨h1, h2⟩, h5⟩ := intW_ok h4
    subst et; subst eu
    exact RS.opt ⟨_, by unfold intO; rw [ht, hu]; simp only [Option.bind_some, h1, h2, Bool.and_self, if_true], h5⟩
  | .range3 a b c, env, K, X, h => by
    simp only [wI] at h
    simp only [evI]
    refine RS.bind (RS.mono (gOp Φ (gE a) h) (fun x e h => RS.bind (RS.mono (gOp Φ (gE b) h) (fun y e2 h => RS.bind (RS.mono (gOp Φ (gE c) h) (fun z e3 h => ?_) fun _ _ h => h)) fun _ _ h => h)) fun _ _ h => h)
    obtain ⟨t, ht, h⟩ := opW_ok h
    obtain ⟨u, hu, h⟩ := opW_ok h
    obtain ⟨v, hv, h⟩ := opW_ok h
    obtain ⟨i, et, h4⟩ := intW_ok h
    obtain ⟨j, eu, h5⟩ := intW_ok h4
    obtain ⟨k, ev, h1, h6⟩ := intW_ok h5
    subst et; subst eu; subst ev
    exact RS.opt ⟨_, by unfold intO; rw [ht, hu, hv]; simp only [Option.bind_some, h1, if_true], h6⟩
  | .enum a, env, K, X, h => by
    simp only [wI] at h
    simp only [evI]
    refine RS.bind (RS.mono (gOp Φ (gE a) h) (fun x e h => ?_) fun _ _ h => h)
    obtain ⟨hl, w, hw, h⟩ := h
    exact RS.opt ⟨_, by rw [hl, hw]; rfl, h⟩
  | .zip a b, env, K, X, h => by
    simp only [wI] at h
    simp only [evI]
    refine RS.bind (RS.mono (gOp Φ (gE a) h) (fun x e h => RS.bind (RS.mono (gOp Φ (gE b) h) (fun y e2 h => ?_) fun _ _ h => h)) fun _ _ h => h)
    obtain ⟨⟨h1, h2⟩, w, hw, v, hv, h⟩ := h
    exact RS.opt ⟨_, by rw [h1, h2, hw, hv]; rfl, h⟩
end
mutual
theorem gT : ∀ c : C, GT Φ c
  | .nt a => fun env A B X h => by
    simp only [wT] at h
    simp only [evT]
    refine RS.bind (RS.mono (gT a _ _ _ _ h) (fun b e h => ?_) fun _ _ h => h)
    cases b
    · exact kT_t (h.2 rfl)
    · exact kT_f (h.1 rfl)
  | .and a b => fun env A B X h => by
    simp only [wT] at h
    simp only [evT]
    refine RS.bind (RS.mono (gT a _ _ _ _ h) (fun k e h => ?_) fun _ _ h => h)
    cases k
    · exact kT_f (h.2 rfl)
    · exact gT b _ _ _ _ (h.1 rfl)
  | .or a b => fun env A B X h => by
    simp only [wT] at h
    simp only [evT]
    refine RS.bind (RS.mono (gT a _ _ _ _ h) (fun k e h => ?_) fun _ _ h => h)
    cases k
    · exact gT b _ _ _ _ (h.2 rfl)
    · exact kT_t (h.1 rfl)
  | .slot i => fun env A B X h => by
    simp only [wT] at h
    simp only [evT]
    exact tru1_ok' (wSlotO_ok h)
  | .cst t => fun env A B X h => by
    simp only [wT] at h
    simp only [evT]
    obtain ⟨k, hk, h⟩ := truW_ok h
    exact opt_k ⟨k, hk, h⟩
  | .bin op a b => fun env A B X h => by
    simp only [wT] at h
    simp only [evT]
    refine opnd_tru (fun i z => nomatch z) (un2_ok' (RS.mono (gOp Φ (gE Φ a) h) (fun x e h => RS.mono (gOp Φ (gE Φ b) h) (fun y e2 h => opW_mono h fun t h => opW_mono h fun u h => binW_ok h) fun _ _ h => h) fun _ _ h => h))
  | .cmp op a b => fun env A B X h => by
    simp only [wT] at h
    simp only [evT]
    refine RS.bind (RS.mono (gOp Φ (gE Φ a) h) (fun x e h => RS.bind (RS.mono (gOp Φ (gE Φ b) h) (fun y e2 h => ?_) fun _ _ h => h)) fun _ _ h => h)
    obtain ⟨t, ht, h⟩ := opW_ok h
    obtain ⟨u, hu, h⟩ := opW_ok h
    obtain ⟨k, hk, h⟩ := cmpW_ok h
    exact opt_k ⟨k, by simp only [ht, hu, Option.bind_some, hk], h⟩
  | .chain op op' a b c => fun env A B X h => by
    simp only [wT] at h
    simp only [evT]
    refine RS.bind (RS.mono (gOp Φ (gE Φ a) h) (fun x e h => RS.bind (RS.mono (gOp Φ (gE Φ b) h) (fun y e2 h => ?_) fun _ _ h => h)) fun _ _ h => h)
    obtain ⟨t, ht, h⟩ := opW_ok h
    obtain ⟨u, hu, h⟩ := opW_ok h
    obtain ⟨k, hk, h⟩ := cmpW_ok h
    simp only [ht, hu, Option.bind_some, hk]
    cases k with
    | true =>
      refine RS.bind (RS.mono (gOp Φ (gE Φ c) (h.1 rfl)) (fun z e3 h => ?_) fun _ _ h => h)
      obtain ⟨u', hu', h⟩ := opW_ok h
      obtain ⟨v, hv, h⟩ := opW_ok h
      obtain ⟨k, hk, h⟩ := cmpW_ok h
      exact opt_k ⟨k, by simp only [hu', hv, Option.bind_some, hk], h⟩
    | false => exact kT_f (h.2 rfl)
  | .isN a => fun env A B X h => by
    simp only [wT] at h
    simp only [evT]
    refine RS.bind (RS.mono (gOp Φ (gE Φ a) h) (fun x e h => ?_) fun _ _ h => h)
    obtain ⟨t, ht, h⟩ := opW_ok h
    refine RS.opt ⟨_, by rw [ht]; rfl, ?_⟩
    cases t <;> first | exact kT_t h | exact kT_f h
  | .notN a => fun env A B X h => by
    simp only [wT] at h
    simp only [evT]
    refine RS.bind (RS.mono (gOp Φ (gE Φ a) h) (fun x e h => ?_) fun _ _ h => h)
    obtain ⟨t, ht, h⟩ := opW_ok h
    refine RS.opt ⟨_, by rw [ht]; rfl, ?_⟩
    cases t <;> first | exact kT_t h | exact kT_f h
  | .fn f args => fun env A B X h => by
    simp only [wT] at h
    simp only [evT]
    obtain ⟨F, hF, h⟩ := h
    rw [hF]
    exact opnd_tru (fun i z => nomatch z) (callF_ok' (wArg_ok (gL Φ args) h))
  | .bi b args => fun env A B X h => by
    simp only [wT] at h
    simp only [evT]
    exact opnd_tru (fun i z => nomatch z) (unL_ok' (RS.mono (wOps_ok (gL Φ args) h) (fun x e h => opsW_mono h fun ts h => biW_ok h) fun _ _ h => h))
  | .isi a k => fun env A B X h => by
    simp only [wT] at h
    simp only [evT]
    refine opnd_tru (fun i z => nomatch z) (un1_ok' (RS.mono (gOp Φ (gE Φ a) h) (fun x e h => opW_mono h fun t h => ?_) fun _ _ h => h))
    obtain ⟨r, hr, h⟩ := isiW_ok h
    exact ⟨.val (.bl r), by rw [hr]; rfl, h⟩
  | .ix a b => fun env A B X h => by
    simp only [wT] at h
    simp only [evT]
    refine opnd_tru (fun i z => nomatch z) (un2_ok' (RS.mono (gOp Φ (gE Φ a) h) (fun x e h => RS.mono (gOp Φ (gE Φ b) h) (fun y e2 h => opW_mono h fun t h => opW_mono h fun u h => ?_) fun _ _ h => h) fun _ _ h => h))
    obtain ⟨r, hr, h⟩ := h
    exact ⟨.val r, by rw [hr]; rfl, h⟩
  | .neg _ => fun env A B X h => by simp only [wT] at h
  | .mk _ _ => fun env A B X h => by simp only [wT] at h
  | .meth _ _ _ => fun env A B X h => by simp only [wT] at h
  | .lix _ _ => fun env A B X h => by simp only [wT] at h
  | .mu _ _ _ => fun env A B X h => by simp only [wT] at h
  | .fno _ _ _ => fun env A B X h => by simp only [wT] at h
  | .ometh _ _ _ => fun env A B X h => by simp only [wT] at h
  | .sl _ _ _ => fun env A B X h => by simp only [wT] at h
  | .rev _ => fun env A B X h => by simp only [wT] at h
  | .lst _ => fun env A B X h => by simp only [wT] at h
  | .tup _ => fun env A B X h => by simp only [wT] at h
  | .dic _ => fun env A B X h => by simp only [wT] at h
  | .dicE _ => fun env A B X h => by simp only [wT] at h
  | .dget _ _ => fun env A B X h => by simp only [wT] at h
  | .din neg a i => fun env A B X h => by
    simp only [wT] at h
    simp only [evT]
    refine RS.bind (RS.mono (gOp Φ (gE Φ a) h) (fun x e h => RS.bind (RS.mono (wSlotO_ok h) (fun y e2 h => ?_) fun _ _ h => h)) fun _ _ h => h)
    obtain ⟨t, ht, h⟩ := opW_ok h
    obtain ⟨u, hu, h⟩ := opW_ok h
    obtain ⟨k, hk, h⟩ := h
    exact opt_k ⟨neg != k, by simp only [ht, hu, Option.bind_some, hk, Option.map_some], h⟩
  | .lc _ _ _ _ _ => fun env A B X h => by simp only [wT] at h
  | .fld _ _ => fun env A B X h => by simp only [wT] at h
end
mutual
theorem gG : ∀ (g : Tg) (t : T) {env : En} {K : En → Prop} {X : XW}, wG Φ g t env K X → RS (evG Φ g t env) (fun _ e => K e) X
  | .name i, t, env, K, X, h => by
    simp only [wG] at h
    simp only [evG]
    exact setW_ok h
  | .sub i c, t, env, K, X, h => by
    simp only [wG] at h
    simp only [evG]
    exact setSub_ok' (fun h => gOp Φ (gE Φ c) h) h
  | .tup gs, t, env, K, X, h => by
    simp only [wG] at h
    simp only [evG]
    split at h
    · rename_i xs e
      rw [e]
      simp only
      rw [if_pos h.1]
      exact gGs gs xs h.2
    · exact h.elim
theorem gGs : ∀ (gs : List Tg) (ts : List T) {env : En} {K : En → Prop} {X : XW}, wGs Φ gs ts env K X → RS (evGs Φ gs ts env) (fun _ e => K e) X
  | [], ts, env, K, X, h => by
    simp only [wGs] at h
    simp only [evGs]
    cases ts with
    | nil => exact h
    | cons t ts => exact h.elim
  | g :: gs, ts, env, K, X, h => by
    simp only [wGs] at h
    simp only [evGs]
    cases ts with
    | nil => exact h.elim
    | cons t ts => exact RS.bind (RS.mono (gG g t h) (fun _ e h => gGs gs ts h) fun _ _ h => h)
end
end
end VL

set_option maxHeartbeats 4000000
namespace VL
open PySem PySem.Spec PyProof.Rows L2
section
variable (Φ : Ft)
theorem wS_asgG {g : Tg} {e : C} (h : ∀ i, g ≠ .name i) : wS Φ (.asg g e) = fun env K X => wE Φ e env (fun o e1 => wG Φ g o.t e1 (fun e2 => K .next e2) X) X := by
  cases g with
  | name i => exact absurd rfl (h i)
  | tup gs => simp only [wS]
  | sub i c => simp only [wS]
theorem wS_ret {e : C} (h : ∀ i, e ≠ .slot i) : wS Φ (.ret e) = fun env K X => wE Φ e env (fun o e1 => K (.ret o) e1) X := by
  cases e with
  | slot i => exact absurd rfl (h i)
  | _ => simp only [wS]
def GS (s : S) : Prop := ∀ (env : En) (K : Fw → En → Prop) (X : XW), wS Φ s env K X → RS (evS Φ s env) K X
def GSs (s : List S) : Prop := ∀ (env : En) (K : Fw → En → Prop) (X : XW), wSs Φ s env K X → RS (evSs Φ s env) K X
theorem gAsg {e : C} : ∀ (g : Tg), GS Φ (.asg g e)
  | .name i => fun env K X h => by
    simp only [wS] at h
    simp only [evS]
    exact RS.bind (RS.mono (gE Φ e _ _ _ h) (fun o e1 h => RS.bind (RS.mono (setW_ok (X := X) h) (fun _ e2 h => h) fun _ _ h => h)) fun _ _ h => h)
  | .tup gs => fun env K X h => by
    rw [wS_asgG Φ (g := .tup gs) (fun i z => by cases z)] at h
    rw [evS_asgG (g := .tup gs) (fun i z => by cases z)]
    exact RS.bind (RS.mono (gE Φ e _ _ _ h) (fun o e1 h => RS.bind (RS.mono (gG Φ _ _ h) (fun _ e2 h => h) fun _ _ h => h)) fun _ _ h => h)
  | .sub i c => fun env K X h => by
    rw [wS_asgG Φ (g := .sub i c) (fun i z => by cases z)] at h
    rw [evS_asgG (g := .sub i c) (fun i z => by cases z)]
    exact RS.bind (RS.mono (gE Φ e _ _ _ h) (fun o e1 h => RS.bind (RS.mono (gG Φ _ _ h) (fun _ e2 h => h) fun _ _ h => h)) fun _ _ h => h)
theorem gRet : ∀ (e : C), GS Φ (.ret e) := fun e env K X h => by
  by_cases hs : ∃ i, e = .slot i
  · obtain ⟨i, rfl⟩ := hs
    simp only [wS] at h
    simp only [evS]
    split at h
    · rename_i t q; (try simp only [q]); exact h
    · rename_i t q; (try simp only [q]); exact h
    · exact h.elim
  · have hs : ∀ i, e ≠ .slot i := fun i z => hs ⟨i, z⟩
    rw [wS_ret Φ hs] at h
    rw [evS_ret hs]
    exact RS.bind (RS.mono (gE Φ e _ _ _ h) (fun o e1 h => h) fun _ _ h => h)
mutual
theorem gS : ∀ s : S, GS Φ s
  | .asg g e => gAsg Φ g
  | .par i j a b => fun env K X h => by
    simp only [wS] at h
    simp only [evS]
    refine RS.bind (RS.mono (wVals_ok (gL Φ [a, b]) h) (fun ts e1 h => ?_) fun _ _ h => h)
    split at h
    · obtain ⟨hij, h⟩ := h
      (try dsimp only)
      rw [if_neg hij]
      exact RS.bind (RS.mono (setW_ok (X := X) h) (fun _ e2 h => RS.bind (RS.mono (setW_ok (X := X) h) (fun _ e2 h => h) fun _ _ h => h)) fun _ _ h => h)
    · exact h.elim
  | .ex e => fun env K X h => by
    simp only [wS] at h
    simp only [evS]
    exact RS.bind (RS.mono (gE Φ e _ _ _ h) (fun o e1 h => h) fun _ _ h => h)
  | .iff t a b => fun env K X h => by
    simp only [wS] at h
    simp only [evS]
    refine RS.bind (RS.mono (gT Φ t _ _ _ _ h) (fun k e1 h => ?_) fun _ _ h => h)
    cases k
    · exact gSs b _ _ _ (h.2 rfl)
    · exact gSs a _ _ _ (h.1 rfl)
  | .forr g it body ws => fun env K X h => by
    simp only [wS] at h
    simp only [evS]
    refine RS.bind (RS.mono (gI Φ it h) (fun w e1 h => ?_) fun _ _ h => h)
    unfold ForW at h
    exact RS.bind (RS.mono h (fun f e2 h => h) fun _ _ h => h)
  | .whl t body ws => fun env K X h => by
    simp only [wS] at h
    simp only [evS]
    unfold WhlW at h
    exact h
  | .ret e => gRet Φ e
  | .retN => fun env K X h => by
    simp only [wS] at h
    simp only [evS]
    exact h
  | .raise c args => fun env K X h => by
    simp only [wS] at h
    simp only [evS]
    cases q : Φ.ex c with
    | none => rw [q] at h; exact h.elim
    | some fs =>
      rw [q] at h
      dsimp only at h ⊢
      rw [if_pos h.1]
      refine RS.bind (RS.mono (wVals_ok (gL Φ args) h.2) (fun ts e1 h => ?_) fun _ _ h => h)
      rw [if_pos h.1]
      exact h.2
  | .brk => fun env K X h => by
    simp only [wS] at h
    simp only [evS]
    exact h
  | .pass => fun env K X h => by
    simp only [wS] at h
    simp only [evS]
    exact h
  | .tryAs body cls i j => fun env K X h => by
    simp only [wS] at h
    simp only [evS]
    have g := gSs body _ _ _ h
    cases q : evSs Φ body env with
    | stuck => rw [q] at g; exact g.elim
    | ok f e1 => rw [q] at g; exact g
    | exc x e1 =>
      rw [q] at g
      have g : (match catX Φ cls x with
        | some true => i ≠ j ∧ setW i (.val x) e1 fun e2 => setW j (.val x) e2 fun e3 => K .next (e3.set i none)
        | some false => X x e1
        | none => False) := g
      dsimp only
      cases hc : catX Φ cls x with
      | none => rw [hc] at g; exact g.elim
      | some b =>
        rw [hc] at g
        cases b with
        | false => exact g
        | true =>
          show RS (keepX i j x e1) K X
          unfold keepX
          rw [if_neg g.1]
          exact RS.bind (RS.mono (setW_ok (X := X) g.2) (fun _ e2 h => RS.bind (RS.mono (setW_ok (X := X) h) (fun _ e3 h => h) fun _ _ h => h)) fun _ _ h => h)
  | .tryH body cls i hd => fun env K X h => by
    simp only [wS] at h
    simp only [evS]
    have g := gSs body _ _ _ h
    cases q : evSs Φ body env with
    | stuck => rw [q] at g; exact g.elim
    | ok f e1 => rw [q] at g; exact g
    | exc x e1 =>
      rw [q] at g
      have g : (match catX Φ cls x with
        | some true => setW i (.val x) e1 fun e2 => wSs Φ hd e2 (fun f e3 => match f with
          | .next => handW i e3 (K .next)
          | _ => False) fun _ _ => False
        | some false => X x e1
        | none => False) := g
      dsimp only
      cases hc : catX Φ cls x with
      | none => rw [hc] at g; exact g.elim
      | some b =>
        rw [hc] at g
        cases b with
        | false => exact g
        | true =>
          show RS (handX i x (evSs Φ hd) e1) K X
          unfold handX
          refine RS.bind (RS.mono (setW_ok (X := X) g) (fun _ e2 h => ?_) fun _ _ h => h)
          have g2 := gSs hd _ _ _ h
          cases q2 : evSs Φ hd e2 with
          | stuck => rw [q2] at g2; exact g2.elim
          | exc u e3 => rw [q2] at g2; exact g2.elim
          | ok f e3 =>
            rw [q2] at g2
            cases f with
            | brk => exact g2.elim
            | ret o => exact g2.elim
            | next =>
              obtain ⟨t, es, k⟩ := handW_ok g2
              dsimp only
              rw [es]
              exact k
  | .tryRet body cls a b => fun env K X h => by
    simp only [wS] at h
    simp only [evS]
    have g := gSs body _ _ _ h
    cases q : evSs Φ body env with
    | stuck => rw [q] at g; exact g.elim
    | ok f e1 =>
      rw [q] at g
      cases f with
      | next => exact RS.bind (RS.mono (gE Φ b _ _ _ g) (fun o e1 h => h) fun _ _ h => h)
      | brk => exact g.elim
      | ret o => exact g.elim
    | exc x e1 =>
      rw [q] at g
      have g : (match catX Φ cls x with
        | some true => wE Φ a e1 (fun o e2 => K (.ret o) e2) X
        | some false => X x e1
        | none => False) := g
      dsimp only
      cases hc : catX Φ cls x with
      | none => rw [hc] at g; exact g.elim
      | some b =>
        rw [hc] at g
        cases b with
        | false => exact g
        | true => exact RS.bind (RS.mono (gE Φ a _ _ _ g) (fun o e1 h => h) fun _ _ h => h)
theorem gSs : ∀ s : List S, GSs Φ s
  | [] => fun env K X h => by
    simp only [wSs] at h
    simp only [evSs]
    exact h
  | s :: ss => fun env K X h => by
    simp only [wSs] at h
    simp only [evSs]
    refine RS.bind (RS.mono (gS s _ _ _ h) (fun f e1 h => ?_) fun _ _ h => h)
    cases f with
    | next => exact gSs ss _ _ _ h
    | brk => exact h
    | ret o => exact h
end
end
/-! ### loops -/
section
variable {Φ : Ft} {X : XW}
theorem for_go {ws : List Nat} {asg : T → M Unit} {body : M Fw} {K : Fw → En → Prop} {P : Nat → En → Prop} : ∀ (ts : List T) (i : Nat) (env : En), wipeW ws env (P i) →
    (∀ (j : Nat) (t : T) (env : En), ts[j]? = some t → P (i + j) env → RS (asg t env) (fun _ e1 => RS (body e1) (loopK ws (P (i + j + 1)) K) X) X) →
    (∀ env, P (i + ts.length) env → K .next env) → RS (forL ws asg body ts env) K X
  | [], i, env, h, _, fin => by
    unfold forL
    exact RS.bind (RS.mono (wipeF_of h) (fun _ e h => fin e h) fun _ _ h => h)
  | t :: ts, i, env, h, step, fin => by
    unfold forL
    refine RS.bind (RS.mono (wipeF_of h) (fun _ e0 h0 => ?_) fun _ _ h => h)
    refine RS.bind (RS.mono (step 0 t e0 rfl h0) (fun _ e1 h => RS.bind (RS.mono h (fun f e2 h => ?_) fun _ _ h => h)) fun _ _ h => h)
    cases f with
    | next =>
      refine for_go ts (i + 1) e2 h (fun j u e hu hp => ?_) fun e hp => fin e ?_
      · have := step (j + 1) u e (by simpa using hu) (by rw [show i + (j + 1) = i + 1 + j by omega]; exact hp)
        rw [show i + (j + 1) + 1 = i + 1 + j + 1 by omega] at this
        exact this
      · rw [List.length_cons, show i + (ts.length + 1) = i + 1 + ts.length by omega]; exact hp
    | brk => exact RS.bind (RS.mono (wipeF_of h) (fun _ e h => h) fun _ _ h => h)
    | ret o => exact h
/-- a for by an invariant -/
theorem for_rule {ws : List Nat} {g : Tg} {body : List S} {ts : List T} {env : En} {K : Fw → En → Prop} (P : Nat → En → Prop) (h0 : wipeW ws env (P 0))
    (step : ∀ (j : Nat) (t : T) (e : En), ts[j]? = some t → P j e → wG Φ g t e (fun e1 => wSs Φ body e1 (loopK ws (P (j + 1)) K) X) X)
    (fin : ∀ e, P ts.length e → K .next e) : ForW ws (evG Φ g) (evSs Φ body) ts env K X := by
  unfold ForW
  refine for_go ts 0 env h0 (fun j t e ht hp => ?_) fun e hp => fin e (by simpa using hp)
  rw [Nat.zero_add] at hp ⊢
  exact RS.mono (gG Φ g t (step j t e ht hp)) (fun _ e1 h => gSs Φ body _ _ _ h) fun _ _ h => h
theorem for_nil {ws : List Nat} {g : Tg} {body : List S} {env : En} {K : Fw → En → Prop} (h : wipeW ws env (K .next)) : ForW ws (evG Φ g) (evSs Φ body) [] env K X := by
  unfold ForW forL
  exact RS.bind (RS.mono (wipeF_of h) (fun _ e h => h) fun _ _ h => h)
def loop1 (ws : List Nat) (N : En → Prop) (K : Fw → En → Prop) (f : Fw) (e : En) : Prop := match f with
  | .next => N e
  | .brk => wipeW ws e fun e => K .next e
  | .ret o => K (.ret o) e
theorem for_cons {ws : List Nat} {g : Tg} {body : List S} {t : T} {ts : List T} {env : En} {K : Fw → En → Prop}
    (h : wipeW ws env fun e0 => wG Φ g t e0 (fun e1 => wSs Φ body e1 (loop1 ws (fun e2 => ForW ws (evG Φ g) (evSs Φ body) ts e2 K X) K) X) X) : ForW ws (evG Φ g) (evSs Φ body) (t :: ts) env K X := by
  unfold ForW at h ⊢
  unfold forL
  refine RS.bind (RS.mono (wipeF_of h) (fun _ e0 h => ?_) fun _ _ h => h)
  refine RS.bind (RS.mono (gG Φ g t h) (fun _ e1 h => RS.bind (RS.mono (gSs Φ body _ _ _ h) (fun f e2 h => ?_) fun _ _ h => h)) fun _ _ h => h)
  cases f with
  | next => exact h
  | brk => exact RS.bind (RS.mono (wipeF_of h) (fun _ e h => h) fun _ _ h => h)
  | ret o => exact h
def whlK (ws : List Nat) (N : En → Prop) (K : Fw → En → Prop) (f : Fw) (e : En) : Prop := match f with
  | .next => N e
  | .brk => wipeW ws e fun e => K .next e
  | .ret o => K (.ret o) e
theorem whl_go {ws : List Nat} {test : M Bool} {body : M Fw} {K : Fw → En → Prop} {P : Nat → En → Prop}
    (step : ∀ (n : Nat) (env : En), P n env → RS (test env) (fun b e1 => if b then RS (body e1) (whlK ws (fun e2 => ∃ m, m < n ∧ wipeW ws e2 (P m)) K) X else K .next e1) X) :
    ∀ (n : Nat) (env : En), wipeW ws env (P n) → ∃ k, RS (whileN ws test body k env) K X := by
  intro n
  induction n using Nat.strongRecOn with
  | ind n ih =>
    intro env h
    obtain ⟨w1, w2⟩ := wipeW_ok h
    have hw : wipeF ws env = .ok () (wipeE env ws) := by unfold wipeF; rw [if_pos w1]
    have s := step n _ w2
    cases ht : test (wipeE env ws) with
    | stuck => rw [ht] at s; exact s.elim
    | exc x e1 => rw [ht] at s; exact ⟨1, by unfold whileN; rw [hw, bind_ok, ht]; exact s⟩
    | ok b e1 =>
      rw [ht] at s
      cases b with
      | false => exact ⟨1, by unfold whileN; rw [hw, bind_ok, ht]; exact s⟩
      | true =>
        have s : RS (body e1) (whlK ws (fun e2 => ∃ m, m < n ∧ wipeW ws e2 (P m)) K) X := s
        cases hb : body e1 with
        | stuck => rw [hb] at s; exact s.elim
        | exc x e2 => rw [hb] at s; exact ⟨1, by unfold whileN; rw [hw, bind_ok, ht]; simp only [bind_ok, if_true]; rw [hb]; exact s⟩
        | ok f e2 =>
          rw [hb] at s
          cases f with
          | next =>
            obtain ⟨m, hm, hp⟩ := s
            obtain ⟨k, hk⟩ := ih m hm e2 hp
            exact ⟨k + 1, by unfold whileN; rw [hw, bind_ok, ht]; simp only [bind_ok, if_true]; rw [hb]; exact hk⟩
          | brk => exact ⟨1, by unfold whileN; rw [hw, bind_ok, ht]; simp only [bind_ok, if_true]; rw [hb]; simp only [bind_ok]; exact RS.bind (RS.mono (wipeF_of s) (fun _ e h => h) fun _ _ h => h)⟩
          | ret o => exact ⟨1, by unfold whileN; rw [hw, bind_ok, ht]; simp only [bind_ok, if_true]; rw [hb]; exact s⟩
theorem whileN_more {ws : List Nat} {c : M Bool} {b : M Fw} : ∀ {n : Nat} {env : En} {r : Res Fw}, whileN ws c b n env = r → r ≠ .stuck → ∀ k, whileN ws c b (n + k) env = r
  | 0, env, r, h, hr, k => absurd h.symm hr
  | n + 1, env, r, h, hr, k => by
    rw [show n + 1 + k = n + k + 1 by omega]
    unfold whileN at h ⊢
    cases ew : wipeF ws env with
    | stuck => simp only [ew, bind_stuck] at h; exact absurd h.symm hr
    | exc x env0 => simp only [ew, bind_exc] at h ⊢; exact h
    | ok u env0 =>
      simp only [ew, bind_ok] at h ⊢
      cases e : c env0 with
      | stuck => simp only [e, bind_stuck] at h; exact absurd h.symm hr
      | exc x env1 => simp only [e, bind_exc] at h ⊢; exact h
      | ok t env1 =>
        simp only [e, bind_ok] at h ⊢
        cases t with
        | false => exact h
        | true =>
          rw [if_pos rfl] at h ⊢
          cases e2 : b env1 with
          | stuck => simp only [e2, bind_stuck] at h; exact absurd h.symm hr
          | exc x env2 => simp only [e2, bind_exc] at h ⊢; exact h
          | ok f env2 =>
            simp only [e2, bind_ok] at h ⊢
            cases f with
            | next => exact whileN_more h hr k
            | brk => exact h
            | ret o => exact h
theorem whileL_of {ws : List Nat} {c : M Bool} {b : M Fw} {n : Nat} {env : En} {r : Res Fw} (h : whileN ws c b n env = r) (hr : r ≠ .stuck) : whileL ws c b env = r := by
  unfold whileL
  have hx : ∃ n, whileN ws c b n env ≠ .stuck := ⟨n, by rw [h]; exact hr⟩
  rw [dif_pos hx]
  have h1 := whileN_more (r := whileN ws c b hx.choose env) rfl hx.choose_spec n
  have h2 := whileN_more h hr hx.choose
  rw [Nat.add_comm] at h1
  rw [← h1]; exact h2
/-- a while by an invariant and what falls -/
theorem whl_rule {ws : List Nat} {c : C} {body : List S} {env : En} {K : Fw → En → Prop} (P : Nat → En → Prop) (n : Nat) (h0 : wipeW ws env (P n))
    (step : ∀ (n : Nat) (e : En), P n e → wT Φ c e (fun e1 => wSs Φ body e1 (whlK ws (fun e2 => ∃ m, m < n ∧ wipeW ws e2 (P m)) K) X) (fun e1 => K .next e1) X) :
    WhlW ws (evT Φ c) (evSs Φ body) env K X := by
  unfold WhlW
  obtain ⟨k, hk⟩ := whl_go (X := X) (K := K) (P := P) (ws := ws) (test := evT Φ c) (body := evSs Φ body) (fun n e hp => by
    refine RS.mono (gT Φ c _ _ _ _ (step n e hp)) (fun b e1 h => ?_) fun _ _ h => h
    cases b with
    | true => rw [if_pos rfl]; exact gSs Φ body _ _ _ (h.1 rfl)
    | false => rw [if_neg Bool.false_ne_true]; exact h.2 rfl) n env h0
  rw [whileL_of (n := k) (r := whileN ws (evT Φ c) (evSs Φ body) k env) rfl (fun z => by rw [z] at hk; exact hk)]
  exact hk
/-- a comprehension, item by item -/
theorem lc_go {own : List Nat} {asg : T → M Unit} {elt : M Out} {env0 : En} : ∀ (ts us acc : List T) (env : En), wipeM own env = .ok () env0 → us.length = ts.length → acc.length + ts.length ≤ LIM →
    (∀ (j : Nat) (t u : T), ts[j]? = some t → us[j]? = some u → RS (asg t env0) (fun _ e1 => RS (elt e1) (fun o e2 => o.t = u ∧ wipeM own e2 = .ok () env0) fun _ _ => False) fun _ _ => False) → lcL own asg none elt acc ts env = .ok (acc ++ us) env0
  | [], [], acc, env, hw, _, _, _ => by
    unfold lcL
    rw [hw]
    simp
  | t :: ts, [], acc, env, hw, hl, _, _ => by cases hl
  | [], u :: us, acc, env, hw, hl, _, _ => by cases hl
  | t :: ts, u :: us, acc, env, hw, hl, hm, step => by
    have s := step 0 t u rfl rfl
    unfold lcL
    rw [hw, bind_ok]
    rw [List.length_cons] at hm
    cases qa : asg t env0 with
    | stuck => rw [qa] at s; exact s.elim
    | exc x e1 => rw [qa] at s; exact s.elim
    | ok a e1 =>
      rw [qa] at s
      have s : RS (elt e1) (fun o e2 => o.t = u ∧ wipeM own e2 = .ok () env0) fun _ _ => False := s
      simp only [bind_ok]
      cases qe : elt e1 with
      | stuck => rw [qe] at s; exact s.elim
      | exc x e1 => rw [qe] at s; exact s.elim
      | ok o e2 =>
        rw [qe] at s
        obtain ⟨rfl, hw2⟩ := s
        simp only [bind_ok]
        rw [if_pos (show acc.length < LIM by omega)]
        rw [lc_go ts us (acc ++ [o.t]) e2 hw2 (by simpa using hl) (by rw [List.length_append, List.length_singleton]; omega) (fun j t u h1 h2 => step (j + 1) t u (by simpa using h1) (by simpa using h2)), List.append_assoc]
        rfl
theorem lc_rule {own : List Nat} {g : Tg} {elt : C} {ts : List T} {env : En} {K : List T → En → Prop} (us : List T)
    (h : wipeS own env fun env0 => (us.length = ts.length ∧ ts.length ≤ LIM) ∧ (∀ (j : Nat) (t u : T), ts[j]? = some t → us[j]? = some u → wG Φ g t env0 (fun e1 => wE Φ elt e1 (fun o e2 => wipeS own e2 fun e3 => o.t = u ∧ e3 = env0) fun _ _ => False) fun _ _ => False) ∧ K us env) :
    LcW own (evG Φ g) (evC Φ none) (evE Φ elt) ts env K X := by
  unfold LcW inBlk
  obtain ⟨hs, ⟨hl, hm⟩, step, k⟩ := wipeS_ok h
  rw [if_pos hs]
  have hw' : wipeM own env = .ok () (wipeE env own) := by unfold wipeM; rw [if_pos hs]
  have e : evC Φ none = none := by simp only [evC]
  rw [e, lc_go (own := own) (asg := evG Φ g) (elt := evE Φ elt) (env0 := wipeE env own) ts us [] env hw' hl (by simpa using hm) fun j t u h1 h2 => RS.mono (gG Φ g t (step j t u h1 h2)) (fun _ e1 h => RS.mono (gE Φ elt _ _ _ h) (fun o e2 h => by
    obtain ⟨w, q1, q2⟩ := wipeM_of h
    exact ⟨q1, by rw [w, q2]⟩) fun _ _ h => h) fun _ _ h => h]
  show K us (backE env (wipeE env own) own)
  rw [back_wipe]
  exact k
/-- a comprehension with a test -/
theorem lcf_go {own : List Nat} {asg : T → M Unit} {cond : M Bool} {elt : M Out} {env0 : En} : ∀ (ts : List T) (us : List (Option T)) (acc : List T) (env : En), wipeM own env = .ok () env0 → us.length = ts.length → acc.length + ts.length ≤ LIM →
    (∀ (j : Nat) (t : T) (u : Option T), ts[j]? = some t → us[j]? = some u → RS (asg t env0) (fun _ e1 => RS (cond e1) (fun b e2 => if b then RS (elt e2) (fun o e3 => some o.t = u ∧ wipeM own e3 = .ok () env0) (fun _ _ => False) else none = u ∧ wipeM own e2 = .ok () env0) fun _ _ => False) fun _ _ => False) →
    lcL own asg (some cond) elt acc ts env = .ok (acc ++ us.filterMap id) env0
  | [], [], acc, env, hw, _, _, _ => by
    unfold lcL
    rw [hw]
    simp
  | t :: ts, [], acc, env, hw, hl, _, _ => by cases hl
  | [], u :: us, acc, env, hw, hl, _, _ => by cases hl
  | t :: ts, u :: us, acc, env, hw, hl, hm, step => by
    have s := step 0 t u rfl rfl
    unfold lcL
    rw [hw, bind_ok]
    rw [List.length_cons] at hm
    cases qa : asg t env0 with
    | stuck => rw [qa] at s; exact s.elim
    | exc x e1 => rw [qa] at s; exact s.elim
    | ok a e1 =>
      rw [qa] at s
      have s : RS (cond e1) (fun b e2 => if b then RS (elt e2) (fun o e3 => some o.t = u ∧ wipeM own e3 = .ok () env0) (fun _ _ => False) else none = u ∧ wipeM own e2 = .ok () env0) fun _ _ => False := s
      simp only [bind_ok]
      cases qc : cond e1 with
      | stuck => rw [qc] at s; exact s.elim
      | exc x e1 => rw [qc] at s; exact s.elim
      | ok b e2 =>
        rw [qc] at s
        simp only [bind_ok]
        cases b with
        | false =>
          obtain ⟨rfl, hw2⟩ : none = u ∧ wipeM own e2 = .ok () env0 := s
          rw [if_neg Bool.false_ne_true, lcf_go ts us acc e2 hw2 (by simpa using hl) (by omega) (fun j t u h1 h2 => step (j + 1) t u (by simpa using h1) (by simpa using h2))]
          rfl
        | true =>
          have s : RS (elt e2) (fun o e3 => some o.t = u ∧ wipeM own e3 = .ok () env0) (fun _ _ => False) := s
          rw [if_pos rfl]
          cases qe : elt e2 with
          | stuck => rw [qe] at s; exact s.elim
          | exc x e1 => rw [qe] at s; exact s.elim
          | ok o e3 =>
            rw [qe] at s
            obtain ⟨rfl, hw2⟩ := s
            simp only [bind_ok]
            rw [if_pos (show acc.length < LIM by omega)]
            rw [lcf_go ts us (acc ++ [o.t]) e3 hw2 (by simpa using hl) (by rw [List.length_append, List.length_singleton]; omega) (fun j t u h1 h2 => step (j + 1) t u (by simpa using h1) (by simpa using h2)), List.append_assoc]
            rfl
theorem lcf_rule {own : List Nat} {g : Tg} {c elt : C} {ts : List T} {env : En} {K : List T → En → Prop} (us : List (Option T))
    (h : wipeS own env fun env0 => (us.length = ts.length ∧ ts.length ≤ LIM) ∧ (∀ (j : Nat) (t : T) (u : Option T), ts[j]? = some t → us[j]? = some u → wG Φ g t env0 (fun e1 => wT Φ c e1 (fun e2 => wE Φ elt e2 (fun o e3 => wipeS own e3 fun e4 => some o.t = u ∧ e4 = env0) fun _ _ => False) (fun e2 => wipeS own e2 fun e3 => none = u ∧ e3 = env0) fun _ _ => False) fun _ _ => False) ∧ K (us.filterMap id) env) :
    LcW own (evG Φ g) (evC Φ (some c)) (evE Φ elt) ts env K X := by
  unfold LcW inBlk
  obtain ⟨hs, ⟨hl, hm⟩, step, k⟩ := wipeS_ok h
  rw [if_pos hs]
  have hw' : wipeM own env = .ok () (wipeE env own) := by unfold wipeM; rw [if_pos hs]
  have e : evC Φ (some c) = some (evT Φ c) := by simp only [evC]
  rw [e, lcf_go (own := own) (asg := evG Φ g) (cond := evT Φ c) (elt := evE Φ elt) (env0 := wipeE env own) ts us [] env hw' hl (by simpa using hm) fun j t u h1 h2 => RS.mono (gG Φ g t (step j t u h1 h2)) (fun _ e1 h => RS.mono (gT Φ c _ _ _ _ h) (fun b e2 h => ?_) fun _ _ h => h) fun _ _ h => h]
  · show K (us.filterMap id) (backE env (wipeE env own) own)
    rw [back_wipe]
    exact k
  · cases b with
    | true =>
      rw [if_pos rfl]
      exact RS.mono (gE Φ elt _ _ _ (h.1 rfl)) (fun o e2 h => by
        obtain ⟨w, q1, q2⟩ := wipeM_of h
        exact ⟨q1, by rw [w, q2]⟩) fun _ _ h => h
    | false =>
      rw [if_neg Bool.false_ne_true]
      obtain ⟨w, q1, q2⟩ := wipeM_of (h.2 rfl)
      exact ⟨q1, by rw [w, q2]⟩
/-- a def's run -/
def runK (md : List Md) (ts : List T) (r : FRes) (f : Fw) (e : En) : Prop := match f with
  | .ret o => ∃ outs, outsOf e 0 md ts = some outs ∧ FRes.ok o outs = r
  | .next => ∃ outs, outsOf e 0 md ts = some outs ∧ FRes.ok (.val .non) outs = r
  | .brk => False
def runX (md : List Md) (ts : List T) (r : FRes) (x : T) (e : En) : Prop := ∃ outs, outsOf e 0 md ts = some outs ∧ FRes.exc x outs = r
theorem run_rule {d : Df} {md : List Md} {ts : List T} {r : FRes} (hl : md.length = d.pk.length ∧ ts.length = d.pk.length)
    (h : wSs Φ d.body (env0 d.nn md ts) (runK md ts r) (runX md ts r)) : runDf Φ d md ts = r := by
  have g := gSs Φ d.body _ _ _ h
  unfold runDf
  rw [if_pos hl]
  cases q : evSs Φ d.body (env0 d.nn md ts) with
  | stuck => rw [q] at g; exact g.elim
  | exc x e =>
    rw [q] at g
    obtain ⟨outs, h1, rfl⟩ := g
    unfold Res.toF
    simp only [h1]
  | ok f e =>
    rw [q] at g
    cases f with
    | brk => exact g.elim
    | next =>
      obtain ⟨outs, h1, rfl⟩ := g
      unfold Res.toF
      simp only [h1]
    | ret o =>
      obtain ⟨outs, h1, rfl⟩ := g
      unfold Res.toF
      simp only [h1]
def runQ (md : List Md) (ts : List T) (Q : Out → List T → Prop) (f : Fw) (e : En) : Prop := match f with
  | .ret o => ∃ outs, outsOf e 0 md ts = some outs ∧ Q o outs
  | .next => ∃ outs, outsOf e 0 md ts = some outs ∧ Q (.val .non) outs
  | .brk => False
/-- a def's run, by what holds of its answer -/
theorem run_ex {d : Df} {md : List Md} {ts : List T} {Q : Out → List T → Prop} (hl : md.length = d.pk.length ∧ ts.length = d.pk.length)
    (h : wSs Φ d.body (env0 d.nn md ts) (runQ md ts Q) (fun _ _ => False)) : ∃ o outs, runDf Φ d md ts = .ok o outs ∧ Q o outs := by
  have g := gSs Φ d.body _ _ _ h
  unfold runDf
  rw [if_pos hl]
  cases q : evSs Φ d.body (env0 d.nn md ts) with
  | stuck => rw [q] at g; exact g.elim
  | exc x e => rw [q] at g; exact g.elim
  | ok f e =>
    rw [q] at g
    cases f with
    | brk => exact g.elim
    | next =>
      obtain ⟨outs, h1, h2⟩ := g
      exact ⟨_, _, by unfold Res.toF; simp only [h1], h2⟩
    | ret o =>
      obtain ⟨outs, h1, h2⟩ := g
      exact ⟨_, _, by unfold Res.toF; simp only [h1], h2⟩
end
end VL

set_option maxHeartbeats 4000000
namespace VL
open PySem PySem.Spec PyProof.Rows L2
variable {Φ : Ft} {X : XW}
/-- a comprehension that changes what stands around it: P by the turn, the new list, the slots -/
theorem lcp_go {own : List Nat} {asg : T → M Unit} {elt : M Out} (P : Nat → List T → En → Prop) : ∀ (ts acc : List T) (i : Nat) (env env0 : En), wipeM own env = .ok () env0 → P i acc env0 → acc.length = i → acc.length + ts.length ≤ LIM →
    (∀ (j : Nat) (t : T) (acc : List T) (e : En), ts[j]? = some t → acc.length = i + j → P (i + j) acc e → RS (asg t e) (fun _ e1 => RS (elt e1) (fun o e2 => ∃ e3, wipeM own e2 = .ok () e3 ∧ P (i + j + 1) (acc ++ [o.t]) e3) fun _ _ => False) fun _ _ => False) →
    RS (lcL own asg none elt acc ts env) (fun us e => us.length = i + ts.length ∧ P (i + ts.length) us e) fun _ _ => False
  | [], acc, i, env, env0, hw, hp, ha, hm, step => by
    unfold lcL
    rw [hw]
    exact ⟨ha, hp⟩
  | t :: ts, acc, i, env, env0, hw, hp, ha, hm, step => by
    have s := step 0 t acc env0 rfl ha hp
    unfold lcL
    rw [hw, bind_ok]
    rw [List.length_cons] at hm
    cases qa : asg t env0 with
    | stuck => rw [qa] at s; exact s.elim
    | exc x e1 => rw [qa] at s; exact s.elim
    | ok a e1 =>
      rw [qa] at s
      have s : RS (elt e1) (fun o e2 => ∃ e3, wipeM own e2 = .ok () e3 ∧ P (i + 0 + 1) (acc ++ [o.t]) e3) fun _ _ => False := s
      simp only [bind_ok]
      cases qe : elt e1 with
      | stuck => rw [qe] at s; exact s.elim
      | exc x e1 => rw [qe] at s; exact s.elim
      | ok o e2 =>
        rw [qe] at s
        obtain ⟨e3, hw2, hp2⟩ := s
        simp only [bind_ok]
        rw [if_pos (show acc.length < LIM by omega)]
        have r := lcp_go P ts (acc ++ [o.t]) (i + 1) e2 e3 hw2 hp2 (by simp [ha]) (by simp; omega) fun j t acc e h1 h2 h3 => by
          have z := step (j + 1) t acc e (by simpa using h1) (by omega) (by rw [show i + (j + 1) = i + 1 + j by omega]; exact h3)
          rw [show i + (j + 1) + 1 = i + 1 + j + 1 by omega] at z
          exact z
        rw [List.length_cons, show i + (ts.length + 1) = i + 1 + ts.length by omega]
        exact r
theorem lcp_rule {own : List Nat} {g : Tg} {elt : C} {ts : List T} {env : En} {K : List T → En → Prop} (P : Nat → List T → En → Prop)
    (h : wipeS own env fun env0 => ts.length ≤ LIM ∧ P 0 [] env0) (step : ∀ (j : Nat) (t : T) (acc : List T) (e : En), ts[j]? = some t → acc.length = j → P j acc e → wG Φ g t e (fun e1 => wE Φ elt e1 (fun o e2 => wipeS own e2 fun e3 => P (j + 1) (acc ++ [o.t]) e3) fun _ _ => False) fun _ _ => False)
    (fin : ∀ us e, us.length = ts.length → P ts.length us e → K us (backE env e own)) :
    LcW own (evG Φ g) (evC Φ none) (evE Φ elt) ts env K X := by
  unfold LcW inBlk
  obtain ⟨hs, hm, hp⟩ := wipeS_ok h
  rw [if_pos hs]
  have hw' : wipeM own env = .ok () (wipeE env own) := by unfold wipeM; rw [if_pos hs]
  have e : evC Φ none = none := by simp only [evC]
  rw [e]
  have r := lcp_go (own := own) (asg := evG Φ g) (elt := evE Φ elt) P ts [] 0 env _ hw' hp rfl (by simpa using hm) fun j t acc e h1 h2 h3 => by
    rw [Nat.zero_add] at h2 h3 ⊢
    exact RS.mono (gG Φ g t (step j t acc e h1 h2 h3)) (fun _ e1 h => RS.mono (gE Φ elt _ _ _ h) (fun o e2 h => ⟨_, wipeM_of h⟩) fun _ _ h => h) fun _ _ h => h
  rw [Nat.zero_add] at r
  cases q : lcL own (evG Φ g) none (evE Φ elt) [] ts env with
  | stuck => rw [q] at r; exact r.elim
  | exc x e1 => rw [q] at r; exact r.elim
  | ok us e1 =>
    rw [q] at r
    exact fin us e1 r.1 r.2
end VL

set_option maxHeartbeats 4000000
namespace VL
open PySem PySem.Spec PyProof.Rows L2
def c__law_cell : Df := ⟨[.rd, .rd], 2, [.iff (.cmp .Lt (.slot 1) (.bi .len [(.slot 0)])) [.ret (.ix (.slot 0) (.slot 1))] [], .ret (.cst (.int 0))]⟩
def c__law_blended : Df := ⟨[.rd, .rd], 7, [.asg (.name 2) (.lst []), .asg (.name 3) (.bin .Add (.bin .Mod (.slot 0) (.cst (.int 1000000093))) (.cst (.int 12))), .forr (.tup [(.name 4), (.name 5)]) (.enum (.slot 1)) [.asg (.name 3) (.bin .Mod (.bin .Add (.bin .Add (.bin .Mult (.slot 3) (.cst (.int 48817))) (.bin .Mult (.bin .Mult (.cst (.int 65029)) (.slot 4)) (.slot 4))) (.cst (.int 501))) (.cst (.int 1000000093))), .asg (.name 6) (.bin .Mod (.bin .Mult (.slot 3) (.bin .Add (.bin .FloorDiv (.slot 3) (.cst (.int 2053))) (.cst (.int 613)))) (.cst (.int 998244353))), .ex (.mu .append 2 [(.bin .Mod (.bin .Mod (.bin .Add (.bin .Mult (.slot 6) (.slot 6)) (.slot 3)) (.cst (.int 1000000087))) (.slot 5))])] [4, 5, 6], .ret (.slot 2)]⟩
def c__law_figures : Df := ⟨[.rd, .rd, .rd], 6, [.asg (.name 3) (.lst []), .forr (.tup [(.name 4), (.name 5)]) (.enum (.slot 1)) [.iff (.or (.cmp .Eq (.slot 0) (.cst (.int 0))) (.cmp .Eq (.slot 0) (.bin .Sub (.cst (.int 0)) (.cst (.int 1))))) [.ex (.mu .append 3 [(.ix (.slot 2) (.slot 4))])] [.ex (.mu .append 3 [(.bin .Mod (.slot 0) (.slot 5))])], .asg (.name 0) (.bin .FloorDiv (.slot 0) (.slot 5))] [4, 5], .ret (.slot 3)]⟩
def c__law_part : Df := ⟨[.rd, .rd, .rd], 5, [.asg (.name 3) (.fn "_law_cell" [(.slot 0), (.slot 1)]), .asg (.name 4) (.fn "_law_blended" [(.bin .Add (.slot 3) (.bin .Mult (.bin .Mult (.cst (.int 65537)) (.slot 1)) (.slot 1))), (.slot 2)]), .iff (.cmp .Eq (.bin .Mod (.fn "_law_cell" [(.slot 0), (.cst (.int 0))]) (.cst (.int 2))) (.cst (.int 1))) [.ret (.fn "_law_figures" [(.slot 3), (.slot 2), (.slot 4)])] [], .ret (.slot 4)]⟩
def c__law_whole : Df := ⟨[.rd], 1, [.ret (.and (.isi (.slot 0) (.ty "int")) (.nt (.isi (.slot 0) (.ty "bool"))))]⟩
def c_is_whole : Df := ⟨[.rd], 1, [.ret (.and (.isi (.slot 0) (.ty "int")) (.nt (.isi (.slot 0) (.ty "bool"))))]⟩
def c_All_wants : Df := ⟨[.rd], 1, [.ret (.fld (.slot 0) "count")]⟩
def c_Rule_wants : Df := ⟨[.rd], 1, [.ret (.cst (.int 1))]⟩
def c_Some_wants : Df := ⟨[.rd], 1, [.ret (.fld (.slot 0) "need")]⟩
def c_rule_of : Df := ⟨[.rd, .rd], 2, [.iff (.and (.isi (.slot 0) (.ty "str")) (.cmp .Eq (.slot 0) (.cst (.str "all")))) [.ret (.mk "All" [(.slot 1)])] [], .iff (.and (.isi (.slot 0) (.ty "str")) (.cmp .Eq (.slot 0) (.cst (.str "any")))) [.ret (.mk "Any" [(.slot 1)])] [], .iff (.and (.fn "is_whole" [(.slot 0)]) (.chain .LtE .LtE (.cst (.int 1)) (.slot 0) (.slot 1))) [.ret (.mk "Some" [(.slot 1), (.slot 0)])] [], .raise "NoRule" []]⟩
def c_All_falls : Df := ⟨[.rd, .rd], 2, [.iff (.cmp .In (.cst .non) (.slot 1)) [.ret (.cst .non)] [], .ret (.bi .max [(.slot 1)])]⟩
def c_Rule_falls : Df := ⟨[.rd, .rd], 4, [.asg (.name 2) (.bi .sorted [(.lc (.slot 3) (.c (.slot 1)) (.name 3) (some (.notN (.slot 3))) [3])]), .iff (.cmp .Lt (.bi .len [(.slot 2)]) (.ometh (.slot 0) "wants" [])) [.ret (.cst .non)] [], .ret (.ix (.slot 2) (.bin .Sub (.ometh (.slot 0) "wants" []) (.cst (.int 1))))]⟩
def c__law_names : Df := ⟨[.rd, .rd, .rd], 16, [.asg (.name 3) (.cst (.str "abcdefghijklmnopqrstuvwxyz")), .asg (.name 4) (.fn "_law_part" [(.slot 0), (.slot 1), (.bin .Mult (.bin .Add (.lst [(.cst (.int 8))]) (.bin .Mult (.lst [(.cst (.int 26))]) (.cst (.int 8)))) (.cst (.int 6)))]), .asg (.name 5) (.cst (.int 0)), .iff (.cmp .Eq (.bin .Mod (.fn "_law_cell" [(.slot 0), (.cst (.int 0))]) (.cst (.int 2))) (.cst (.int 0))) [.asg (.name 5) (.ix (.fn "_law_blended" [(.fn "_law_cell" [(.slot 0), (.slot 1)]), (.lst [(.cst (.int 3)), (.cst (.int 3))])]) (.cst (.int 1)))] [], .asg (.name 6) (.meth .join (.cst (.str "")) [(.lc (.ix (.slot 3) (.slot 7)) (.c (.sl (.slot 4) (some (.cst (.int 1))) (some (.cst (.int 9))))) (.name 7) none [7])]), .asg (.name 8) (.lst []), .forr (.name 9) (.range1 (.cst (.int 6))) [.asg (.name 10) (.sl (.slot 4) (some (.bin .Mult (.cst (.int 9)) (.slot 9))) (some (.bin .Add (.bin .Mult (.cst (.int 9)) (.slot 9)) (.cst (.int 9))))), .asg (.name 11) (.meth .join (.cst (.str "")) [(.lc (.ix (.slot 3) (.slot 7)) (.c (.sl (.slot 10) (some (.cst (.int 1))) (some (.bin .Add (.cst (.int 2)) (.ix (.slot 10) (.cst (.int 0))))))) (.name 7) none [7])]), .iff (.cmp .Eq (.slot 5) (.cst (.int 1))) [.asg (.name 11) (.sl (.slot 6) none (some (.bin .Add (.bin .Add (.slot 9) (.cst (.int 1))) (.bin .Mod (.ix (.slot 4) (.cst (.int 0))) (.cst (.int 3))))))] [], .iff (.cmp .Eq (.slot 5) (.cst (.int 2))) [.asg (.name 12) (.ix (.slot 3) (.bin .Mod (.bin .Add (.ix (.slot 4) (.cst (.int 9))) (.bin .Mult (.cst (.int 3)) (.slot 9))) (.cst (.int 26)))), .asg (.name 11) (.bin .Add (.bin .Add (.sl (.slot 6) none (some (.ix (.slot 4) (.cst (.int 0))))) (.slot 12)) (.sl (.slot 6) (some (.bin .Add (.ix (.slot 4) (.cst (.int 0))) (.cst (.int 1)))) none))] [], .asg (.name 13) (.bin .Add (.bin .Add (.slot 2) (.slot 8)) (.lst [(.cst (.str "all")), (.cst (.str "any")), (.cst (.str "bell")), (.cst (.str "none"))])), .iff (.cmp .In (.slot 11) (.slot 13)) [.asg (.name 14) (.lc (.bin .Add (.sl (.slot 11) none (some (.cst (.int 7)))) (.slot 12)) (.c (.slot 3)) (.name 12) none [12]), .asg (.name 11) (.ix (.lc (.slot 15) (.c (.slot 14)) (.name 15) (some (.cmp .NotIn (.slot 15) (.slot 13))) [15]) (.cst (.int 0)))] [], .ex (.mu .append 8 [(.slot 11)])] [9, 13, 11, 10, 12, 14], .ret (.slot 8)]⟩
def c__law_bell : Df := ⟨[.rd, .rd, .rd, .rd], 11, [.asg (.name 4) (.ix (.slot 0) (.cst (.int 2))), .asg (.name 5) (.lst []), .forr (.name 6) (.range1 (.bin .Add (.slot 4) (.cst (.int 1)))) [.asg (.tup [(.name 7), (.name 8), (.name 9)]) (.sl (.slot 0) (some (.bin .Add (.cst (.int 3)) (.bin .Mult (.cst (.int 3)) (.slot 6)))) (some (.bin .Add (.cst (.int 6)) (.bin .Mult (.cst (.int 3)) (.slot 6))))), .ex (.mu .append 5 [(.tup [(.bin .Mod (.slot 7) (.slot 2)), (.bin .Add (.cst (.int 1)) (.bin .Mod (.slot 8) (.slot 3))), (.bi .int [(.cmp .Gt (.slot 9) (.cst (.int 0)))])])])] [9, 8, 6, 7], .asg (.name 10) (.cst (.str "all")), .iff (.cmp .Gt (.ix (.slot 0) (.cst (.int 1))) (.cst (.int 2))) [.asg (.name 10) (.cst (.str "any"))] [], .iff (.cmp .Gt (.ix (.slot 0) (.cst (.int 1))) (.cst (.int 5))) [.asg (.name 10) (.bin .Add (.cst (.int 1)) (.bin .Mod (.bin .Sub (.ix (.slot 0) (.cst (.int 1))) (.cst (.int 6))) (.bi .len [(.slot 5)])))] [], .ret (.tup [(.slot 1), (.bin .Mod (.ix (.slot 0) (.cst (.int 0))) (.bin .Add (.slot 3) (.cst (.int 1)))), (.slot 10), (.bi .tuple [(.slot 5)])])]⟩
def c__law_choir : Df := ⟨[.rd, .rd, .rd], 9, [.asg (.name 3) (.fn "_law_part" [(.slot 0), (.slot 1), (.lst [(.cst (.int 6)), (.cst (.int 4))])]), .asg (.name 4) (.bin .Add (.cst (.int 1)) (.ix (.slot 3) (.cst (.int 0)))), .asg (.name 5) (.cst (.int 1000)), .iff (.cmp .Eq (.bin .Mod (.fn "_law_cell" [(.slot 0), (.cst (.int 0))]) (.cst (.int 2))) (.cst (.int 0))) [.asg (.name 5) (.ix (.lst [(.cst (.int 3)), (.cst (.int 12)), (.cst (.int 1000)), (.cst (.int 5))]) (.ix (.slot 3) (.cst (.int 1))))] [], .asg (.name 6) (.lst []), .forr (.name 7) (.range1 (.slot 4)) [.asg (.name 8) (.fn "_law_part" [(.slot 0), (.bin .Add (.bin .Add (.slot 1) (.cst (.int 1))) (.slot 7)), (.bin .Add (.lst [(.cst (.int 1001)), (.cst (.int 12)), (.cst (.int 6))]) (.bin .Mult (.lst [(.cst (.int 6)), (.cst (.int 1000)), (.cst (.int 4))]) (.cst (.int 6))))]), .ex (.mu .append 6 [(.fn "_law_bell" [(.slot 8), (.ix (.slot 2) (.slot 7)), (.slot 4), (.slot 5)])])] [7, 8], .ret (.bi .tuple [(.slot 6)])]⟩
def c_comings : Df := ⟨[.rd, .rd, .rd], 8, [.asg (.name 3) (.lst []), .forr (.tup [(.name 4), (.name 5), (.name 6)]) (.c (.ix (.slot 0) (.cst (.int 3)))) [.asg (.name 7) (.ix (.slot 2) (.slot 4)), .iff (.cmp .Eq (.slot 6) (.cst (.int 1))) [.asg (.name 7) (.ix (.slot 1) (.slot 4))] [], .iff (.isN (.slot 7)) [.ex (.mu .append 3 [(.cst .non)])] [.ex (.mu .append 3 [(.bin .Add (.slot 7) (.slot 5))])]] [6, 5, 7, 4], .ret (.slot 3)]⟩
def c_least_to_come : Df := ⟨[.rd, .rd, .rd], 7, [.asg (.name 3) (.cst .non), .forr (.tup [(.name 4), (.name 5)]) (.enum (.slot 0)) [.iff (.isN (.ix (.slot 2) (.slot 4))) [.asg (.name 6) (.ometh (.fn "rule_of" [(.ix (.slot 5) (.cst (.int 2))), (.bi .len [(.ix (.slot 5) (.cst (.int 3)))])]) "falls" [(.fn "comings" [(.slot 5), (.slot 1), (.slot 2)])]), .iff (.and (.notN (.slot 6)) (.or (.isN (.slot 3)) (.cmp .Lt (.slot 6) (.ix (.slot 3) (.cst (.int 0)))))) [.asg (.name 3) (.tup [(.slot 6), (.slot 4)])] []] []] [6, 5, 4], .ret (.slot 3)]⟩
def c_next_strokes : Df := ⟨[.rd, .rd], 4, [.asg (.name 2) (.bin .Mult (.lst [(.cst .non)]) (.bi .len [(.slot 0)])), .asg (.name 3) (.fn "least_to_come" [(.slot 0), (.slot 1), (.slot 2)]), .whl (.notN (.slot 3)) [.asg (.sub 2 (.ix (.slot 3) (.cst (.int 1)))) (.ix (.slot 3) (.cst (.int 0))), .asg (.name 3) (.fn "least_to_come" [(.slot 0), (.slot 1), (.slot 2)])] [], .ret (.slot 2)]⟩
def c_strokes : Df := ⟨[.rd, .rd], 5, [.asg (.name 2) (.lst [(.lc (.ix (.slot 3) (.cst (.int 1))) (.c (.slot 0)) (.name 3) none [3])]), .forr (.name 4) (.range1 (.slot 1)) [.ex (.mu .append 2 [(.fn "next_strokes" [(.slot 0), (.ix (.slot 2) (.slot 4))])])] [4], .ret (.slot 2)]⟩
def c__law_nth : Df := ⟨[.rd, .rd], 2, [.iff (.cmp .Lt (.slot 1) (.bi .len [(.slot 0)])) [.ret (.ix (.slot 0) (.slot 1))] [], .ret (.cst (.int 0))]⟩
def c__law_pack_k21 : Df := ⟨[.rd], 1, [.ret (.lst [(.cmp .Eq (.bin .Mod (.fn "_law_nth" [(.slot 0), (.cst (.int 0))]) (.cst (.int 2))) (.cst (.int 0))), (.fn "_law_nth" [(.slot 0), (.cst (.int 1))]), (.cst (.int 2)), (.slot 0), (.cst (.int 11)), (.cst (.int 0))])]⟩
def c__law_next : Df := ⟨[.io], 1, [.iff (.ix (.slot 0) (.cst (.int 0))) [.asg (.sub 0 (.cst (.int 1))) (.fn "_law_nth" [(.ix (.slot 0) (.cst (.int 3))), (.ix (.slot 0) (.cst (.int 2)))]), .asg (.sub 0 (.cst (.int 2))) (.bin .Add (.ix (.slot 0) (.cst (.int 2))) (.cst (.int 1)))] []]⟩
def c__law_draw : Df := ⟨[.io, .rd], 6, [.iff (.and (.ix (.slot 0) (.cst (.int 0))) (.cmp .NotIn (.ix (.slot 0) (.cst (.int 1))) (.lst [(.cst (.int 0)), (.neg (.cst (.int 1)))]))) [.asg (.tup [(.name 2), (.name 3)]) (.bi .divmod [(.ix (.slot 0) (.cst (.int 1))), (.slot 1)]), .asg (.sub 0 (.cst (.int 1))) (.slot 2), .ret (.slot 3)] [], .asg (.name 4) (.cst (.int 7)), .iff (.cmp .NotEq (.ix (.slot 0) (.cst (.int 3))) (.lst [])) [.asg (.name 4) (.bin .Mod (.ix (.ix (.slot 0) (.cst (.int 3))) (.bin .Mod (.ix (.slot 0) (.cst (.int 5))) (.bi .len [(.ix (.slot 0) (.cst (.int 3)))]))) (.cst (.int 1000000000039)))] [], .asg (.sub 0 (.cst (.int 5))) (.bin .Add (.ix (.slot 0) (.cst (.int 5))) (.cst (.int 1))), .asg (.name 5) (.bin .Mult (.ix (.slot 0) (.cst (.int 4))) (.ix (.slot 0) (.cst (.int 4)))), .asg (.sub 0 (.cst (.int 4))) (.bin .Mod (.bin .Add (.bin .Add (.slot 5) (.bin .Mult (.cst (.int 90001)) (.slot 4))) (.bin .Mult (.cst (.int 577)) (.ix (.slot 0) (.cst (.int 5))))) (.cst (.int 998244359987))), .ret (.bin .Mod (.bin .Mod (.bin .Add (.bin .Mult (.bin .FloorDiv (.ix (.slot 0) (.cst (.int 4))) (.cst (.int 3))) (.cst (.int 1009))) (.slot 4)) (.cst (.int 987654323))) (.slot 1))]⟩
def c__law_name : Df := ⟨[.io, .rd], 7, [.asg (.name 2) (.cst (.str "abcdefghijklmnopqrstuvwxyz")), .asg (.name 3) (.cst (.str "")), .asg (.name 4) (.fn "_law_draw" [(.slot 0), (.cst (.int 3))]), .iff (.and (.cmp .Gt (.slot 4) (.cst (.int 0))) (.cmp .NotEq (.slot 1) (.lst []))) [.asg (.name 3) (.sl (.ix (.slot 1) (.neg (.cst (.int 1)))) none (some (.bin .Sub (.cst (.int 7)) (.bin .Mult (.cst (.int 3)) (.bin .Sub (.slot 4) (.cst (.int 1)))))))] [], .forr (.name 5) (.range1 (.bin .Add (.cst (.int 1)) (.fn "_law_draw" [(.slot 0), (.bin .Sub (.cst (.int 8)) (.bi .len [(.slot 3)]))]))) [.asg (.name 3) (.bin .Add (.slot 3) (.ix (.slot 2) (.fn "_law_draw" [(.slot 0), (.cst (.int 26))]))), .iff (.cmp .Eq (.slot 4) (.cst (.int 1))) [.brk] []] [5], .iff (.or (.cmp .In (.slot 3) (.slot 1)) (.cmp .In (.slot 3) (.lst [(.cst (.str "all")), (.cst (.str "any")), (.cst (.str "bell")), (.cst (.str "none"))]))) [.asg (.name 3) (.ix (.lc (.bin .Add (.slot 6) (.cst (.str "ring"))) (.c (.slot 2)) (.name 6) (some (.cmp .NotIn (.bin .Add (.slot 6) (.cst (.str "ring"))) (.slot 1))) [6]) (.cst (.int 0)))] [], .ret (.slot 3)]⟩
def c__law_listening : Df := ⟨[.io, .rd, .rd, .rd], 7, [.asg (.name 4) (.fn "_law_draw" [(.slot 0), (.slot 2)]), .asg (.name 5) (.bin .Add (.cst (.int 1)) (.fn "_law_draw" [(.slot 0), (.ix (.lst [(.cst (.int 4)), (.cst (.int 9)), (.cst (.int 60)), (.cst (.int 1000))]) (.fn "_law_draw" [(.slot 0), (.cst (.int 4))]))])), .asg (.name 6) (.bi .int [(.cmp .Gt (.fn "_law_draw" [(.slot 0), (.cst (.int 3))]) (.cst (.int 0)))]), .iff (.and (.cmp .GtE (.slot 4) (.slot 1)) (.nt (.slot 3))) [.asg (.name 6) (.cst (.int 1))] [], .ret (.tup [(.slot 4), (.slot 5), (.slot 6)])]⟩
def c__law_rule_k21 : Df := ⟨[.io, .rd, .rd], 3, [.iff (.cmp .Eq (.slot 1) (.cst (.int 0))) [.ret (.ix (.lst [(.cst (.str "all")), (.slot 2)]) (.fn "_law_draw" [(.slot 0), (.cst (.int 2))]))] [], .iff (.cmp .Eq (.slot 1) (.cst (.int 1))) [.ret (.ix (.lst [(.cst (.str "any")), (.cst (.int 1))]) (.fn "_law_draw" [(.slot 0), (.cst (.int 2))]))] [], .ret (.ix (.lst [(.cst (.str "all")), (.cst (.str "any")), (.bin .Add (.cst (.int 1)) (.fn "_law_draw" [(.slot 0), (.slot 2)]))]) (.fn "_law_draw" [(.slot 0), (.cst (.int 3))]))]⟩
def c__law_choir_k21 : Df := ⟨[.io, .rd, .rd], 12, [.asg (.name 3) (.bin .Add (.cst (.int 1)) (.fn "_law_draw" [(.slot 0), (.slot 1)])), .asg (.name 4) (.fn "_law_draw" [(.slot 0), (.cst (.int 4))]), .asg (.name 5) (.lst []), .asg (.name 6) (.lst []), .forr (.name 7) (.range1 (.slot 3)) [.ex (.fn "_law_next" [(.slot 0)]), .ex (.mu .append 5 [(.fn "_law_name" [(.slot 0), (.slot 5)])]), .asg (.name 8) (.fn "_law_draw" [(.slot 0), (.ix (.lst [(.cst (.int 6)), (.cst (.int 40)), (.cst (.int 1001))]) (.fn "_law_draw" [(.slot 0), (.cst (.int 3))]))]), .asg (.name 9) (.bin .Add (.cst (.int 1)) (.fn "_law_draw" [(.slot 0), (.ix (.lst [(.cst (.int 3)), (.cst (.int 6))]) (.fn "_law_draw" [(.slot 0), (.cst (.int 2))]))])), .asg (.name 10) (.fn "_law_rule" [(.slot 0), (.slot 4), (.slot 9)]), .ex (.mu .append 6 [(.tup [(.ix (.slot 5) (.slot 7)), (.slot 8), (.slot 10), (.bi .tuple [(.lc (.fn "_law_listening" [(.slot 0), (.slot 7), (.slot 3), (.slot 2)]) (.range1 (.slot 9)) (.name 11) none [11])])])])] [9, 7, 10, 8], .ret (.bi .tuple [(.slot 6)])]⟩
def c__law_wants : Df := ⟨[.rd], 1, [.iff (.cmp .Eq (.ix (.slot 0) (.cst (.int 2))) (.cst (.str "all"))) [.ret (.bi .len [(.ix (.slot 0) (.cst (.int 3)))])] [], .iff (.cmp .Eq (.ix (.slot 0) (.cst (.int 2))) (.cst (.str "any"))) [.ret (.cst (.int 1))] [], .ret (.ix (.slot 0) (.cst (.int 2)))]⟩
def c_has_enough : Df := ⟨[.rd, .rd, .rd], 7, [.asg (.name 3) (.cst (.int 0)), .forr (.tup [(.name 4), (.name 5), (.name 6)]) (.c (.ix (.slot 0) (.cst (.int 3)))) [.iff (.or (.and (.cmp .Eq (.slot 6) (.cst (.int 1))) (.ix (.slot 1) (.slot 4))) (.and (.cmp .Eq (.slot 6) (.cst (.int 0))) (.ix (.slot 2) (.slot 4)))) [.asg (.name 3) (.bin .Add (.slot 3) (.cst (.int 1)))] []] [6, 5, 4], .ret (.cmp .GtE (.slot 3) (.ometh (.fn "rule_of" [(.ix (.slot 0) (.cst (.int 2))), (.bi .len [(.ix (.slot 0) (.cst (.int 3)))])]) "wants" []))]⟩
def c_falling : Df := ⟨[.rd, .rd], 5, [.asg (.name 2) (.bin .Mult (.lst [(.cst (.bl false))]) (.bi .len [(.slot 0)])), .forr (.name 3) (.c (.slot 0)) [.asg (.name 2) (.lc (.fn "has_enough" [(.slot 4), (.slot 1), (.slot 2)]) (.c (.slot 0)) (.name 4) none [4])] [3], .ret (.slot 2)]⟩
def c_waiting : Df := ⟨[.rd], 4, [.asg (.name 1) (.fn "falling" [(.slot 0), (.bin .Mult (.lst [(.cst (.bl true))]) (.bi .len [(.slot 0)]))]), .ret (.lc (.ix (.slot 3) (.cst (.int 0))) (.enum (.slot 0)) (.tup [(.name 2), (.name 3)]) (some (.nt (.ix (.slot 1) (.slot 2)))) [2, 3])]⟩
def c_stops : Df := ⟨[.rd], 5, [.asg (.name 1) (.bin .Mult (.lst [(.cst .non)]) (.bi .len [(.slot 0)])), .asg (.name 2) (.bin .Mult (.lst [(.cst (.bl true))]) (.bi .len [(.slot 0)])), .forr (.name 3) (.range2 (.cst (.int 1)) (.bin .Add (.bi .len [(.slot 0)]) (.cst (.int 1)))) [.asg (.name 2) (.fn "falling" [(.slot 0), (.slot 2)]), .forr (.name 4) (.range1 (.bi .len [(.slot 0)])) [.iff (.and (.isN (.ix (.slot 1) (.slot 4))) (.nt (.ix (.slot 2) (.slot 4)))) [.asg (.sub 1 (.slot 4)) (.slot 3)] []] [4]] [4, 3], .ret (.slot 1)]⟩
def c_hears : Df := ⟨[.rd, .rd], 7, [.asg (.name 2) (.dic false), .asg (.name 3) (.lst [(.slot 1)]), .whl (.cmp .NotEq (.slot 3) (.lst [])) [.forr (.tup [(.name 4), (.name 5), (.name 6)]) (.c (.ix (.ix (.slot 0) (.mu .pop 3 [])) (.cst (.int 3)))) [.iff (.din true (.slot 4) 2) [.asg (.sub 2 (.slot 4)) (.cst (.bl true)), .ex (.mu .append 3 [(.slot 4)])] []] [6, 5, 4]] [6, 5, 4], .ret (.bi .sorted [(.slot 2)])]⟩
def c__law_pack : Df := ⟨[.rd, .rd], 2, [.iff (.cmp .Lt (.slot 1) (.bi .len [(.slot 0)])) [.ret (.lst [(.ix (.slot 0) (.slot 1)), (.slot 1)])] [], .ret (.lst [(.bin .Mod (.bin .Add (.bin .Mult (.cst (.int 7)) (.slot 1)) (.bi .sum [(.sl (.slot 0) none (some (.cst (.int 9))))])) (.cst (.int 16777213))), (.slot 1)])]⟩
def c__law_take : Df := ⟨[.io, .rd], 3, [.iff (.nt (.chain .LtE .Lt (.cst (.int 0)) (.ix (.slot 0) (.cst (.int 0))) (.bin .Pow (.cst (.int 10)) (.cst (.int 18))))) [.asg (.tup [(.sub 0 (.cst (.int 0))), (.name 2)]) (.bi .divmod [(.ix (.slot 0) (.cst (.int 0))), (.slot 1)]), .ret (.slot 2)] [], .asg (.sub 0 (.cst (.int 0))) (.bin .Mod (.bin .Add (.bin .Add (.bin .Mult (.ix (.slot 0) (.cst (.int 0))) (.cst (.int 742939))) (.bin .Mult (.ix (.slot 0) (.cst (.int 1))) (.cst (.int 65063)))) (.cst (.int 40503))) (.cst (.int 16777213))), .ret (.bin .Mod (.bin .FloorDiv (.bin .Mult (.ix (.slot 0) (.cst (.int 0))) (.bin .Add (.bin .Mod (.ix (.slot 0) (.cst (.int 0))) (.cst (.int 4093))) (.cst (.int 7)))) (.cst (.int 64))) (.slot 1))]⟩
def c__law_names_k31 : Df := ⟨[.io, .rd], 9, [.asg (.name 2) (.cst (.str "abcdefghijklmnopqrstuvwxyz")), .asg (.name 3) (.fn "_law_take" [(.slot 0), (.cst (.int 26))]), .iff (.cmp .Eq (.fn "_law_take" [(.slot 0), (.cst (.int 3))]) (.cst (.int 0))) [.ret (.lc (.bin .Mult (.ix (.slot 2) (.slot 3)) (.bin .Add (.slot 4) (.cst (.int 1)))) (.range1 (.slot 1)) (.name 4) none [4])] [], .asg (.name 5) (.meth .join (.cst (.str "")) [(.lc (.ix (.slot 2) (.fn "_law_take" [(.slot 0), (.cst (.int 26))])) (.range1 (.fn "_law_take" [(.slot 0), (.cst (.int 6))])) (.name 4) none [4])]), .asg (.name 6) (.fn "_law_take" [(.slot 0), (.bin .Add (.bi .len [(.slot 5)]) (.cst (.int 1)))]), .asg (.name 7) (.lst []), .forr (.name 4) (.range1 (.slot 1)) [.asg (.name 8) (.bin .Add (.bin .Add (.sl (.slot 5) none (some (.slot 6))) (.ix (.slot 2) (.bin .Mod (.bin .Add (.slot 3) (.bin .Mult (.cst (.int 5)) (.slot 4))) (.cst (.int 26))))) (.sl (.slot 5) (some (.slot 6)) none)), .iff (.cmp .In (.slot 8) (.lst [(.cst (.str "all")), (.cst (.str "any")), (.cst (.str "bell")), (.cst (.str "none"))])) [.asg (.name 8) (.bin .Add (.slot 8) (.cst (.str "q")))] [], .ex (.mu .append 7 [(.slot 8)])] [4, 8], .ret (.slot 7)]⟩
def c__law_rule : Df := ⟨[.io, .rd, .rd], 5, [.iff (.cmp .Eq (.slot 1) (.cst (.int 0))) [.ret (.ix (.lst [(.cst (.str "all")), (.slot 2)]) (.fn "_law_take" [(.slot 0), (.cst (.int 2))]))] [], .iff (.cmp .Eq (.slot 1) (.cst (.int 1))) [.ret (.ix (.lst [(.cst (.str "any")), (.cst (.int 1))]) (.fn "_law_take" [(.slot 0), (.cst (.int 2))]))] [], .asg (.name 3) (.fn "_law_take" [(.slot 0), (.bin .Add (.slot 2) (.cst (.int 2)))]), .ret (.ix (.bin .Add (.lst [(.cst (.str "all")), (.cst (.str "any"))]) (.lc (.bin .Add (.slot 4) (.cst (.int 1))) (.range1 (.slot 2)) (.name 4) none [4])) (.slot 3))]⟩
def c__law_bell_k31 : Df := ⟨[.io, .rd, .rd, .rd], 14, [.asg (.tup [(.name 4), (.name 5), (.name 6), (.name 7)]) (.slot 3), .asg (.name 8) (.fn "_law_take" [(.slot 0), (.ix (.lst [(.cst (.int 10)), (.cst (.int 1001))]) (.bi .int [(.slot 6)]))]), .asg (.name 9) (.lst []), .forr (.name 10) (.range1 (.bin .Add (.cst (.int 1)) (.fn "_law_take" [(.slot 0), (.ix (.lst [(.cst (.int 3)), (.cst (.int 3)), (.cst (.int 6))]) (.fn "_law_take" [(.slot 0), (.cst (.int 3))]))]))) [.asg (.name 11) (.fn "_law_take" [(.slot 0), (.slot 4)]), .asg (.name 12) (.bin .Add (.cst (.int 1)) (.fn "_law_take" [(.slot 0), (.ix (.lst [(.cst (.int 9)), (.cst (.int 1000))]) (.bi .int [(.slot 6)]))])), .asg (.name 13) (.bi .int [(.cmp .Gt (.fn "_law_take" [(.slot 0), (.cst (.int 4))]) (.cst (.int 0)))]), .iff (.and (.slot 5) (.cmp .GtE (.slot 11) (.slot 2))) [.asg (.name 13) (.cst (.int 1))] [], .ex (.mu .append 9 [(.tup [(.slot 11), (.slot 12), (.slot 13)])])] [13, 12, 10, 11], .ret (.tup [(.ix (.slot 7) (.slot 2)), (.slot 8), (.fn "_law_rule" [(.slot 0), (.slot 1), (.bi .len [(.slot 9)])]), (.bi .tuple [(.slot 9)])])]⟩
def c__law_choir_k31 : Df := ⟨[.rd, .rd, .rd, .rd], 10, [.asg (.name 4) (.fn "_law_pack" [(.slot 0), (.slot 1)]), .asg (.name 5) (.bin .Add (.cst (.int 1)) (.fn "_law_take" [(.slot 4), (.slot 3)])), .asg (.name 6) (.cmp .Gt (.fn "_law_take" [(.slot 4), (.cst (.int 3))]) (.cst (.int 0))), .asg (.name 7) (.cmp .Eq (.fn "_law_take" [(.slot 4), (.cst (.int 3))]) (.cst (.int 0))), .asg (.name 8) (.tup [(.slot 5), (.slot 6), (.slot 7), (.fn "_law_names" [(.slot 4), (.slot 5)])]), .ret (.bi .tuple [(.lc (.fno "_law_bell" (.fn "_law_pack" [(.slot 0), (.bin .Add (.bin .Add (.slot 1) (.cst (.int 1))) (.slot 9))]) [(.slot 2), (.slot 9), (.slot 8)]) (.range1 (.slot 5)) (.name 9) none [9])])]⟩
def c__law_gathered_k31 : Df := ⟨[.rd, .rd], 7, [.asg (.name 2) (.bi .sortedSet [(.lc (.ix (.slot 3) (.cst (.int 0))) (.c (.ix (.ix (.slot 0) (.slot 1)) (.cst (.int 3)))) (.name 3) none [3])]), .forr (.name 4) (.c (.slot 0)) [.asg (.name 5) (.slot 2), .forr (.name 6) (.c (.slot 2)) [.asg (.name 5) (.bin .Add (.slot 5) (.lc (.ix (.slot 3) (.cst (.int 0))) (.c (.ix (.ix (.slot 0) (.slot 6)) (.cst (.int 3)))) (.name 3) none [3]))] [6], .asg (.name 2) (.bi .sortedSet [(.slot 5)])] [5, 4, 6], .ret (.slot 2)]⟩
def c__law_is_k31 : Df := ⟨[.rd, .rd], 3, [.iff (.or (.nt (.isi (.slot 0) (.ty "list"))) (.bi .any [(.lc (.isi (.slot 2) (.ty "bool")) (.c (.slot 0)) (.name 2) none [2])])) [.ret (.cst (.bl false))] [], .ret (.cmp .Eq (.slot 0) (.slot 1))]⟩
def c_law_k31 : Df := ⟨[.rd], 5, [.forr (.name 1) (.range3 (.cst (.int 1)) (.bi .max [(.cst (.int 2)), (.bi .min [(.bi .len [(.slot 0)]), (.cst (.int 63))])]) (.cst (.int 7))) [.asg (.name 2) (.fn "_law_choir" [(.slot 0), (.slot 1), (.cst (.int 2)), (.cst (.int 6))]), .asg (.name 3) (.lst []), .forr (.name 4) (.range1 (.bi .len [(.slot 2)])) [.asg (.name 3) (.fn "hears" [(.slot 2), (.slot 4)]), .iff (.nt (.fn "_law_is" [(.slot 3), (.fn "_law_gathered" [(.slot 2), (.slot 4)])])) [.ret (.cst (.bl false))] []] [4], .ex (.mu .append 3 [(.cst (.int 0))]), .iff (.nt (.fn "_law_is" [(.fn "hears" [(.slot 2), (.bin .Sub (.bi .len [(.slot 2)]) (.cst (.int 1)))]), (.fn "_law_gathered" [(.slot 2), (.bin .Sub (.bi .len [(.slot 2)]) (.cst (.int 1)))])])) [.ret (.cst (.bl false))] []] [4, 2, 3, 1], .ret (.cst (.bl true))]⟩
end VL

set_option maxHeartbeats 4000000
namespace VL
open PySem PySem.Spec PyProof.Rows L2

/-! ### numbers -/
abbrev vi (i : Int) : Slot := some (.sh, .int i)
abbrev vL (ts : List T) : Slot := some (.sh, .lst ts)
abbrev oL (ts : List T) : Slot := some (.own, .lst ts)
abbrev vT (ts : List T) : Slot := some (.sh, .tup ts)
abbrev vs (s : Str) : Slot := some (.sh, .str s)
abbrev iL (xs : List Int) : List T := xs.map .int
theorem iL_snoc (xs : List Int) (x : Int) : iL xs ++ [T.int x] = iL (xs ++ [x]) := by simp
theorem mod_lt {a b : Int} (h : 0 < b) : 0 ≤ a % b ∧ a % b < b := ⟨Int.emod_nonneg _ (by omega), Int.emod_lt_of_pos _ h⟩
theorem okm_l {a b : Int} (h : a.natAbs < 2 ^ 64) : okMul a b = true := by unfold okMul; simp [h]
theorem okm_r {a b : Int} (h : b.natAbs < 2 ^ 64) : okMul a b = true := by unfold okMul; simp [h]
theorem okR_of {i : Int} (h1 : -(2 ^ 62) ≤ i) (h2 : i < 2 ^ 62) : okR i = true := by unfold okR; rw [decide_eq_true h1, decide_eq_true h2]; rfl
theorem atI_nat {α : Type} {xs : List α} {k : Int} {x : α} (h0 : 0 ≤ k) (h : xs[k.toNat]? = some x) : atI xs k = some x := by
  have hl : k.toNat < xs.length := (List.getElem?_eq_some_iff.mp h).1
  unfold atI ixN
  rw [if_pos h0, if_pos (by omega)]
  exact h
theorem enum_at {xs : List Int} {j : Nat} {t : T} (h : (enumT (iL xs))[j]? = some t) : ∃ x, xs[j]? = some x ∧ t = .tup [.int j, .int x] := by
  obtain ⟨u, hu, rfl⟩ := enumT_get h
  rw [List.getElem?_map] at hu
  obtain ⟨x, hx, rfl⟩ := Option.map_eq_some_iff.mp hu
  exact ⟨x, hx, rfl⟩
theorem range_at {lo hi : Int} {j : Nat} {t : T} (h : (rangeT lo hi)[j]? = some t) : t = .int (lo + j) ∧ lo + j < hi := by
  unfold rangeT at h
  rw [List.getElem?_map] at h
  obtain ⟨k, hk, rfl⟩ := Option.map_eq_some_iff.mp h
  obtain ⟨h1, h2⟩ := List.getElem?_eq_some_iff.mp hk
  rw [List.getElem_range] at h2
  subst h2
  rw [List.length_range] at h1
  exact ⟨rfl, by omega⟩
theorem len_lt {n : Nat} (h : n ≤ 1000000) : n < LIM := Nat.lt_of_le_of_lt h (by decide)
theorem len_le {n : Nat} (h : n ≤ 1000000) : n ≤ LIM := Nat.le_trans h (by decide)
/-! ### the law's promise -/
def S_law (Φ : Ft) : Prop := ∃ r, Φ.fn "law" = some ⟨[.rd], r⟩ ∧ ∀ ns : List Int, ns.length ≤ 63 → r [.sh] [.scr ns] = .ok (.val (.bl true)) [.scr ns]
theorem plain_of {Φ : Ft} {F : Fn} (h : Φ.fn "law" = some F) (s : S_law Φ) : ∀ ns : List Int, ns.length ≤ 63 → ∃ o, F.run [.sh] [.scr ns] = .ok (.val (.bl true)) o ∧ o.length = 1 := by
  obtain ⟨r, e, q⟩ := s
  rw [h] at e
  cases e
  exact fun ns hn => ⟨_, q ns hn, rfl⟩
/-! ### the draws: cell, blended, figures, part -/
def cellI (ns : List Int) (k : Int) : Int := if k < ns.length then ns.getD k.toNat 0 else 0
def S__law_cell (Φ : Ft) : Prop := ∃ r, Φ.fn "_law_cell" = some ⟨[.rd, .rd], r⟩ ∧ ∀ (ns : List Int) (k : Int), 0 ≤ k → r [.sh, .sh] [.scr ns, .int k] = .ok (.val (.int (cellI ns k))) [.scr ns, .int k]
theorem p__law_cell {Φ0 Φ : Ft} (h : Φ.fn "_law_cell" = some (Df.fn Φ0 c__law_cell)) : S__law_cell Φ := by
  refine ⟨_, h, fun ns k h0 => run_rule ⟨rfl, rfl⟩ ⟨fun h => ?_, fun h => ?_⟩⟩
  · refine ⟨.int (ns.getD k.toNat 0), ?_, _, rfl, ?_⟩
    · show (atI ns k).map T.int = _
      rw [atI_nat (x := ns.getD k.toNat 0) h0 (by rw [List.getD_eq_getElem?_getD, List.getElem?_eq_getElem (by omega)]; rfl)]
      rfl
    · unfold cellI; rw [if_pos h]
  · refine ⟨_, rfl, ?_⟩
    unfold cellI; rw [if_neg h]
/-- xs lies below rs, item by item -/
def Below (xs rs : List Int) : Prop := xs.length = rs.length ∧ ∀ (i : Nat) (x r : Int), xs[i]? = some x → rs[i]? = some r → 0 ≤ x ∧ x < r
theorem below_app {xs rs : List Int} {x r : Int} (h : ∀ (i : Nat) (x r : Int), xs[i]? = some x → rs[i]? = some r → 0 ≤ x ∧ x < r) (hr : rs[xs.length]? = some r) (h0 : 0 ≤ x ∧ x < r) : ∀ (i : Nat) (y r : Int), (xs ++ [x])[i]? = some y → rs[i]? = some r → 0 ≤ y ∧ y < r := by
  intro i y r' e er
  rw [List.getElem?_append] at e
  split at e
  · exact h i y r' e er
  · have hi : i = xs.length := by
      have := (List.getElem?_eq_some_iff.mp e).1
      simp at this
      omega
    subst hi
    simp at e
    subst e
    rw [hr] at er
    cases er
    exact h0
def okRs (rs : List Int) : Prop := (∀ r ∈ rs, 0 < r ∧ okDiv r = true) ∧ rs.length ≤ 1000
def S__law_blended (Φ : Ft) : Prop := ∃ r, Φ.fn "_law_blended" = some ⟨[.rd, .rd], r⟩ ∧ ∀ (c : Int) (rs : List Int), okRs rs → ∃ xs, r [.sh, .sh] [.int c, .lst (iL rs)] = .ok (.own (.lst (iL xs))) [.int c, .lst (iL rs)] ∧ Below xs rs
theorem p__law_blended {Φ0 Φ : Ft} (h : Φ.fn "_law_blended" = some (Df.fn Φ0 c__law_blended)) : S__law_blended Φ := by
  refine ⟨_, h, fun c rs ⟨hr, hl⟩ => ?_⟩
  suffices hx : ∃ o outs, runDf Φ0 c__law_blended [.sh, .sh] [.int c, .lst (iL rs)] = .ok o outs ∧ ∃ xs, o = .own (.lst (iL xs)) ∧ outs = [.int c, .lst (iL rs)] ∧ Below xs rs by
    obtain ⟨_, _, h1, xs, rfl, rfl, h2⟩ := hx; exact ⟨xs, h1, h2⟩
  obtain ⟨m0, m1⟩ := mod_lt (a := c) (b := 1000000093) (by decide)
  refine run_ex ⟨rfl, rfl⟩ ⟨by decide, rfl, _, rfl, ?_⟩
  refine for_rule (fun i e => ∃ (us : List T) (xs : List Int) (ball : Int), e = [vi c, vL (iL rs), oL us, vi ball, none, none, none] ∧ us = iL xs ∧ 0 ≤ ball ∧ ball < 2000000000 ∧ xs.length = i ∧ ∀ (j : Nat) (x r : Int), xs[j]? = some x → rs[j]? = some r → 0 ≤ x ∧ x < r)
    ⟨[], [], _, rfl, rfl, by omega, by omega, rfl, fun j x r e => by simp at e⟩ ?_ ?_
  · rintro j t e ht ⟨_, xs, ball, rfl, rfl, b0, b1, hx, hb⟩
    obtain ⟨r, er, rfl⟩ := enum_at ht
    have hj : j < rs.length := (List.getElem?_eq_some_iff.mp er).1
    obtain ⟨hr0, _⟩ := hr r (List.mem_of_getElem? er)
    obtain ⟨n0, n1⟩ := mod_lt (a := ball * 48817 + 65029 * j * j + 501) (b := 1000000093) (by decide)
    obtain ⟨o0, o1⟩ := mod_lt (a := (ball * 48817 + 65029 * (j : Int) * j + 501) % 1000000093 * ((ball * 48817 + 65029 * (j : Int) * j + 501) % 1000000093 / 2053 + 613)) (b := 998244353) (by decide)
    refine ⟨rfl, okm_r (by decide), okm_l (by decide), okm_r (by omega), by decide, by decide +kernel, okm_l (by omega), by decide, okm_l (by omega), by decide, hr0, len_lt (by simp; omega), _, _, _, rfl, iL_snoc xs _, n0, by omega, by simp [hx], below_app hb (by rw [hx]; exact er) (mod_lt hr0)⟩
  · rintro e ⟨_, xs, ball, rfl, rfl, -, -, hx, hb⟩
    exact ⟨_, rfl, xs, rfl, rfl, by rw [hx]; simp [enumT], hb⟩
theorem intEq {a b : Int} : eqT (.int a) (.int b) = decide (a = b) := by
  unfold eqT toPD
  simp only [PyData.eqv]
  by_cases h : a = b <;> simp [h]
theorem iL_get {xs : List Int} {k : Int} (h0 : 0 ≤ k) (h : k.toNat < xs.length) : atI (iL xs) k = some (.int (xs.getD k.toNat 0)) :=
  atI_nat h0 (by rw [List.getElem?_map, List.getD_eq_getElem?_getD, List.getElem?_eq_getElem h]; rfl)
def S__law_figures (Φ : Ft) : Prop := ∃ r, Φ.fn "_law_figures" = some ⟨[.rd, .rd, .rd], r⟩ ∧ ∀ (c : Int) (rs sp : List Int), okRs rs → Below sp rs → ∃ xs, r [.sh, .sh, .bor] [.int c, .lst (iL rs), .lst (iL sp)] = .ok (.own (.lst (iL xs))) [.int c, .lst (iL rs), .lst (iL sp)] ∧ Below xs rs
theorem p__law_figures {Φ0 Φ : Ft} (h : Φ.fn "_law_figures" = some (Df.fn Φ0 c__law_figures)) : S__law_figures Φ := by
  refine ⟨_, h, fun c rs sp ⟨hr, hl⟩ ⟨sl, sb⟩ => ?_⟩
  suffices hx : ∃ o outs, runDf Φ0 c__law_figures [.sh, .sh, .bor] [.int c, .lst (iL rs), .lst (iL sp)] = .ok o outs ∧ ∃ xs, o = .own (.lst (iL xs)) ∧ outs = [.int c, .lst (iL rs), .lst (iL sp)] ∧ Below xs rs by
    obtain ⟨_, _, h1, xs, rfl, rfl, h2⟩ := hx; exact ⟨xs, h1, h2⟩
  refine run_ex ⟨rfl, rfl⟩ ⟨rfl, _, rfl, ?_⟩
  refine for_rule (fun i e => ∃ (us : List T) (xs : List Int) (c : Int), e = [vi c, vL (iL rs), some (.bor, .lst (iL sp)), oL us, none, none] ∧ us = iL xs ∧ xs.length = i ∧ ∀ (j : Nat) (x r : Int), xs[j]? = some x → rs[j]? = some r → 0 ≤ x ∧ x < r)
    ⟨[], [], _, rfl, rfl, rfl, fun j x r e => by simp at e⟩ ?_ ?_
  · rintro j t e ht ⟨_, xs, c, rfl, rfl, hx, hb⟩
    obtain ⟨r, er, rfl⟩ := enum_at ht
    have hj : j < rs.length := (List.getElem?_eq_some_iff.mp er).1
    obtain ⟨hr0, hrd⟩ := hr r (List.mem_of_getElem? er)
    have hj2 : j < sp.length := by omega
    have es : sp[j]? = some (sp.getD j 0) := by rw [List.getD_eq_getElem?_getD, List.getElem?_eq_getElem hj2]; rfl
    have end1 : ∀ x, 0 ≤ x ∧ x < r → ∃ (us : List T) (ys : List Int) (c' : Int), [vi (c / r), vL (iL rs), some (.bor, .lst (iL sp)), oL (iL xs ++ [.int x]), none, none] = [vi c', vL (iL rs), some (.bor, .lst (iL sp)), oL us, none, none] ∧ us = iL ys ∧ ys.length = j + 1 ∧ ∀ (j : Nat) (x r : Int), ys[j]? = some x → rs[j]? = some r → 0 ≤ x ∧ x < r := fun x hx2 =>
      ⟨_, xs ++ [x], _, rfl, iL_snoc xs _, by simp [hx], below_app hb (by rw [hx]; exact er) hx2⟩
    have one : ∀ x, 0 ≤ x ∧ x < r → (iL xs).length < LIM ∧ okDiv r = true ∧ ∃ (us : List T) (ys : List Int) (c' : Int), [vi (c / r), vL (iL rs), some (.bor, .lst (iL sp)), oL (iL xs ++ [.int x]), none, none] = [vi c', vL (iL rs), some (.bor, .lst (iL sp)), oL us, none, none] ∧ us = iL ys ∧ ys.length = j + 1 ∧ ∀ (j : Nat) (x r : Int), ys[j]? = some x → rs[j]? = some r → 0 ≤ x ∧ x < r :=
      fun x hx2 => ⟨len_lt (by simp; omega), hrd, end1 x hx2⟩
    refine ⟨rfl, fun _ => ⟨_, iL_get (by omega) (by simpa using hj2), one _ (by rw [show (j : Int).toNat = j by omega]; exact sb j _ _ es er)⟩, fun _ => ⟨fun _ => ⟨_, iL_get (by omega) (by simpa using hj2), one _ (by rw [show (j : Int).toNat = j by omega]; exact sb j _ _ es er)⟩, fun _ => ⟨hr0, one _ (mod_lt hr0)⟩⟩⟩
  · rintro e ⟨_, xs, c, rfl, rfl, hx, hb⟩
    exact ⟨_, rfl, xs, rfl, rfl, by rw [hx]; simp [enumT], hb⟩
def S__law_part (Φ : Ft) : Prop := ∃ r, Φ.fn "_law_part" = some ⟨[.rd, .rd, .rd], r⟩ ∧ ∀ (ns : List Int) (k : Int) (rs : List Int), okRs rs → 0 ≤ k → k ≤ 1000 → ∃ xs, r [.sh, .sh, .sh] [.scr ns, .int k, .lst (iL rs)] = .ok (.own (.lst (iL xs))) [.scr ns, .int k, .lst (iL rs)] ∧ Below xs rs
theorem p__law_part {Φ0 Φ : Ft} (h : Φ.fn "_law_part" = some (Df.fn Φ0 c__law_part)) (H1 : S__law_cell Φ0) (H2 : S__law_blended Φ0) (H3 : S__law_figures Φ0) : S__law_part Φ := by
  obtain ⟨r1, h1, q1⟩ := H1
  obtain ⟨r2, h2, q2⟩ := H2
  obtain ⟨r3, h3, q3⟩ := H3
  refine ⟨_, h, fun ns k rs hr hk0 hk1 => ?_⟩
  obtain ⟨xs, e2, b2⟩ := q2 (cellI ns k + 65537 * k * k) rs hr
  obtain ⟨ys, e3, b3⟩ := q3 (cellI ns k) rs xs hr b2
  suffices hx : ∃ o outs, runDf Φ0 c__law_part [.sh, .sh, .sh] [.scr ns, .int k, .lst (iL rs)] = .ok o outs ∧ ∃ xs, o = .own (.lst (iL xs)) ∧ outs = [.scr ns, .int k, .lst (iL rs)] ∧ Below xs rs by
    obtain ⟨_, _, h1, xs, rfl, rfl, h2⟩ := hx; exact ⟨xs, h1, h2⟩
  refine run_ex ⟨rfl, rfl⟩ ⟨_, h1, _, q1 ns k hk0, _, h2, okm_l (by decide), okm_r (by omega), _, e2, _, h1, _, q1 ns 0 (by decide), by decide, ?_⟩
  exact ⟨fun _ => ⟨_, h3, _, e3, _, rfl, ys, rfl, rfl, b3⟩, fun _ => ⟨_, rfl, xs, rfl, rfl, b2⟩⟩
/-- things that are no whole numbers -/
def Od (t : T) : Prop := t = .non ∨ (∃ b, t = .bl b) ∨ ∃ s, t = .str s
/-- a number, or a thing that is none -/
def Sc (t : T) : Prop := (∃ i, t = .int i) ∨ Od t
def S__law_whole (Φ : Ft) : Prop := ∃ r, Φ.fn "_law_whole" = some ⟨[.rd], r⟩ ∧ (∀ i : Int, r [.sh] [.int i] = .ok (.val (.bl true)) [.int i]) ∧ ∀ t, Od t → r [.sh] [t] = .ok (.val (.bl false)) [t]
theorem p__law_whole {Φ0 Φ : Ft} (h : Φ.fn "_law_whole" = some (Df.fn Φ0 c__law_whole)) : S__law_whole Φ := by
  refine ⟨_, h, fun i => run_rule ⟨rfl, rfl⟩ ⟨_, rfl, fun _ => ⟨_, rfl, _, rfl, rfl⟩, nofun⟩, fun t ht => ?_⟩
  rcases ht with rfl | ⟨b, rfl⟩ | ⟨s, rfl⟩
  · exact run_rule ⟨rfl, rfl⟩ ⟨_, rfl, nofun, fun _ => ⟨_, rfl, rfl⟩⟩
  · exact run_rule ⟨rfl, rfl⟩ ⟨_, rfl, fun _ => ⟨_, rfl, _, rfl, rfl⟩, nofun⟩
  · exact run_rule ⟨rfl, rfl⟩ ⟨_, rfl, nofun, fun _ => ⟨_, rfl, rfl⟩⟩
end VL

set_option maxHeartbeats 4000000
namespace VL
open PySem PySem.Spec PyProof.Rows L2
/-! ### == of numbers, of None or a number, of lists of such -/
def optT : Option Int → T
  | none => .non
  | some i => .int i
abbrev btT (bs : List (Option Int)) : List T := bs.map optT
theorem eqT_opt {a b : Option Int} : eqT (optT a) (optT b) = decide (a = b) := by
  cases a <;> cases b <;> unfold eqT optT toPD <;> simp [PyData.eqv]
  rename_i a b
  by_cases h : a = b <;> simp [h]
theorem eqT_str {a b : Str} : eqT (.str a) (.str b) = decide (a = b) := by
  unfold eqT toPD
  simp only [PyData.eqv]
  by_cases h : a = b <;> simp [h]
theorem eqT_lst {a b : List T} : eqT (.lst a) (.lst b) = eqTL a b := by
  unfold eqT eqTL
  simp only [toPD, PyData.eqv]
theorem eqT_tup {a b : List T} : eqT (.tup a) (.tup b) = eqTL a b := by
  unfold eqT eqTL
  simp only [toPD, PyData.eqv]
theorem eqTL_nil : eqTL [] [] = true := by unfold eqTL toPDL; simp [PyData.eqvAll]
theorem eqTL_cons {a b : T} {as bs : List T} : eqTL (a :: as) (b :: bs) = (eqT a b && eqTL as bs) := by
  unfold eqTL eqT
  simp only [toPDL, PyData.eqvAll]
theorem eqTL_nc {b : T} {bs : List T} : eqTL [] (b :: bs) = false := by unfold eqTL; simp only [toPDL, PyData.eqvAll]
theorem eqTL_cn {b : T} {bs : List T} : eqTL (b :: bs) [] = false := by unfold eqTL; simp only [toPDL, PyData.eqvAll]
theorem eqTL_map {α : Type} [DecidableEq α] {f : α → T} (hf : ∀ a b, eqT (f a) (f b) = decide (a = b)) : ∀ xs ys : List α, eqTL (xs.map f) (ys.map f) = decide (xs = ys)
  | [], [] => eqTL_nil
  | [], y :: ys => by rw [List.map_nil, List.map_cons, eqTL_nc]; simp
  | x :: xs, [] => by rw [List.map_nil, List.map_cons, eqTL_cn]; simp
  | x :: xs, y :: ys => by
    rw [List.map_cons, List.map_cons, eqTL_cons, hf, eqTL_map hf xs ys]
    by_cases h : x = y <;> simp [h]
theorem datTL_all {d : Nat} : ∀ {ts : List T}, (∀ t ∈ ts, datT d t = true) → datTL d ts = true
  | [], _ => by unfold datTL; rfl
  | t :: ts, h => by
    unfold datTL
    rw [h t (List.mem_cons_self ..), datTL_all fun t ht => h t (List.mem_cons_of_mem _ ht)]
    rfl
theorem datTL_map {α : Type} {d : Nat} {f : α → T} (hf : ∀ a, datT d (f a) = true) (xs : List α) : datTL d (xs.map f) = true :=
  datTL_all fun t ht => by
    obtain ⟨a, _, rfl⟩ := List.mem_map.mp ht
    exact hf a
theorem datT_int {d : Nat} {i : Int} : datT d (.int i) = true := by cases d <;> (unfold datT; rfl)
theorem datT_opt {d : Nat} {b : Option Int} : datT d (optT b) = true := by cases b <;> cases d <;> (unfold optT datT; rfl)
theorem datT_lst {d : Nat} {ts : List T} (h : datTL d ts = true) : datT (d + 1) (.lst ts) = true := by unfold datT; exact h
theorem datT_tup {d : Nat} {ts : List T} (h : datTL d ts = true) : datT (d + 1) (.tup ts) = true := by unfold datT; exact h
theorem cmp_eq {a b : T} {v : Bool} (h1 : datT 60 a = true) (h2 : datT 60 b = true) (h : eqT a b = v) (hs : ∀ s, a ≠ .str s) : cmpT .Eq a b = some v ∧ cmpT .NotEq a b = some (!v) := by
  subst h
  cases a
  case str s => exact absurd rfl (hs s)
  case dct | dtt | ins | exc | ktp => unfold datT at h1; cases h1
  all_goals
    constructor
    · show (if datT 60 _ && datT 60 b then some _ else none) = _
      rw [h1, h2]; rfl
    · show (if datT 60 _ && datT 60 b then some _ else none) = _
      rw [h1, h2]; rfl
/-- two lists made by one map -/
theorem cmp_map {α : Type} [DecidableEq α] {f : α → T} (hf : ∀ a b, eqT (f a) (f b) = decide (a = b)) (hd : ∀ a, datT 59 (f a) = true) (xs ys : List α) :
    cmpT .Eq (.lst (xs.map f)) (.lst (ys.map f)) = some (decide (xs = ys)) ∧ cmpT .NotEq (.lst (xs.map f)) (.lst (ys.map f)) = some (!decide (xs = ys)) :=
  cmp_eq (datT_lst (datTL_map hd xs)) (datT_lst (datTL_map hd ys)) (eqT_lst.trans (eqTL_map hf xs ys)) nofun
theorem cmp_iL (xs ys : List Int) : cmpT .Eq (.lst (iL xs)) (.lst (iL ys)) = some (decide (xs = ys)) ∧ cmpT .NotEq (.lst (iL xs)) (.lst (iL ys)) = some (!decide (xs = ys)) := cmp_map (fun _ _ => intEq) (fun _ => datT_int) xs ys
theorem cmp_btT (xs ys : List (Option Int)) : cmpT .Eq (.lst (btT xs)) (.lst (btT ys)) = some (decide (xs = ys)) ∧ cmpT .NotEq (.lst (btT xs)) (.lst (btT ys)) = some (!decide (xs = ys)) := cmp_map (fun _ _ => eqT_opt) (fun _ => datT_opt) xs ys
end VL

set_option maxHeartbeats 4000000
namespace VL
open PySem PySem.Spec PyProof.Rows L2
/-! ### rules -/
inductive RuleW where
  | all | any | num (k : Int)
  deriving DecidableEq
def RuleW.t : RuleW → T
  | .all => .str "all"
  | .any => .str "any"
  | .num k => .int k
def RuleW.cls : RuleW → Str
  | .all => "All"
  | .any => "Any"
  | .num _ => "Some"
def RuleW.fn : RuleW → List Str
  | .num _ => ["count", "need"]
  | _ => ["count"]
def RuleW.fv (r : RuleW) (n : Int) : List T := match r with
  | .num k => [.int n, .int k]
  | _ => [.int n]
abbrev obT (r : RuleW) (n : Int) : T := .ins r.cls r.fn (r.fv n)
def RuleW.wants (r : RuleW) (n : Int) : Int := match r with
  | .all => n
  | .any => 1
  | .num k => k
def RuleW.Ok (r : RuleW) (n : Int) : Prop := match r with
  | .num k => 1 ≤ k ∧ k ≤ n
  | _ => True
theorem RuleW.wants_in {r : RuleW} {n : Int} (hn : 1 ≤ n) (h : r.Ok n) : 1 ≤ r.wants n ∧ r.wants n ≤ n := by
  cases r with
  | all => exact ⟨hn, Int.le_refl _⟩
  | any => exact ⟨Int.le_refl _, hn⟩
  | num k => exact h
/-- the least beat by which w of the beats have come -/
def fallsL (w : Int) (bs : List (Option Int)) : Option Int := (sortI (bs.filterMap id))[(w - 1).toNat]?
/-- a thing that is no number -/
def Ow (t : T) : Prop := Od t ∨ (∃ ts, t = .tup ts) ∨ (∃ ts, t = .lst ts) ∨ ∃ ks vs, t = .dct ks vs
/-- a thing that may be asked about -/
inductive Th : T → Prop
  | non : Th .non
  | bl {b} : Th (.bl b)
  | int {i} : Th (.int i)
  | str {s} : PyData.strOk s = true → s.length ≤ 1000 → Th (.str s)
  | lst {ts} : Th (.lst ts)
  | dct {ks vs} : Th (.dct ks vs)
  | tup {ts} : ts.length ≤ 1000 → (∀ t ∈ ts, Th t) → Th (.tup ts)
theorem Th.is {t : T} (h : Th t) : (∃ i, t = .int i) ∨ Ow t := by
  cases h with
  | non => exact .inr (.inl (.inl rfl))
  | bl => exact .inr (.inl (.inr (.inl ⟨_, rfl⟩)))
  | int => exact .inl ⟨_, rfl⟩
  | str => exact .inr (.inl (.inr (.inr ⟨_, rfl⟩)))
  | lst => exact .inr (.inr (.inr (.inl ⟨_, rfl⟩)))
  | dct => exact .inr (.inr (.inr (.inr ⟨_, _, rfl⟩)))
  | tup => exact .inr (.inr (.inl ⟨_, rfl⟩))
def S_is_whole (Φ : Ft) : Prop := ∃ r, Φ.fn "is_whole" = some ⟨[.rd], r⟩ ∧ (∀ i : Int, r [.sh] [.int i] = .ok (.val (.bl true)) [.int i]) ∧ (∀ s : Str, r [.sh] [.str s] = .ok (.val (.bl false)) [.str s]) ∧ ∀ t, Ow t → r [.sh] [t] = .ok (.val (.bl false)) [t]
theorem p_is_whole {Φ0 Φ : Ft} (h : Φ.fn "is_whole" = some (Df.fn Φ0 c_is_whole)) : S_is_whole Φ := by
  refine ⟨_, h, fun i => run_rule ⟨rfl, rfl⟩ ⟨_, rfl, fun _ => ⟨_, rfl, _, rfl, rfl⟩, nofun⟩, fun i => run_rule ⟨rfl, rfl⟩ ⟨_, rfl, nofun, fun _ => ⟨_, rfl, rfl⟩⟩, fun t ht => ?_⟩
  rcases ht with (rfl | ⟨b, rfl⟩ | ⟨s, rfl⟩) | ⟨ts, rfl⟩ | ⟨ts, rfl⟩ | ⟨ks, vs, rfl⟩
  · exact run_rule ⟨rfl, rfl⟩ ⟨_, rfl, nofun, fun _ => ⟨_, rfl, rfl⟩⟩
  · exact run_rule ⟨rfl, rfl⟩ ⟨_, rfl, fun _ => ⟨_, rfl, _, rfl, rfl⟩, nofun⟩
  · exact run_rule ⟨rfl, rfl⟩ ⟨_, rfl, nofun, fun _ => ⟨_, rfl, rfl⟩⟩
  · exact run_rule ⟨rfl, rfl⟩ ⟨_, rfl, nofun, fun _ => ⟨_, rfl, rfl⟩⟩
  · exact run_rule ⟨rfl, rfl⟩ ⟨_, rfl, nofun, fun _ => ⟨_, rfl, rfl⟩⟩
  · exact run_rule ⟨rfl, rfl⟩ ⟨_, rfl, nofun, fun _ => ⟨_, rfl, rfl⟩⟩
/-- the three classes are made -/
def RulesMk (Φ : Ft) : Prop := Φ.mkf "All" = some (["count"] : List Str) ∧ Φ.mkf "Any" = some (["count"] : List Str) ∧ Φ.mkf "Some" = some (["count", "need"] : List Str)
/-- whether a thing is a rule for so many -/
def ruleB (n : Int) : T → Bool
  | .str s => decide (s = "all") || decide (s = "any")
  | .int k => decide (1 ≤ k ∧ k ≤ n)
  | _ => false
theorem ruleB_ok {n : Int} {t : T} (h : ruleB n t = true) : ∃ u : RuleW, t = u.t ∧ u.Ok n := by
  cases t with
  | str s =>
    rcases Bool.or_eq_true_iff.mp h with h | h
    · exact ⟨.all, congrArg T.str (of_decide_eq_true h), trivial⟩
    · exact ⟨.any, congrArg T.str (of_decide_eq_true h), trivial⟩
  | int k =>
    have h : decide (1 ≤ k ∧ k ≤ n) = true := h
    have h : 1 ≤ k ∧ k ≤ n := of_decide_eq_true h
    exact ⟨.num k, rfl, h⟩
  | _ => cases h
theorem ruleB_u {n : Int} {u : RuleW} (h : u.Ok n) : ruleB n u.t = true := by
  cases u with
  | all => rfl
  | any => rfl
  | num k =>
    have h : 1 ≤ k ∧ k ≤ n := h
    show decide (1 ≤ k ∧ k ≤ n) = true
    exact decide_eq_true h
theorem raise_rule {Φ : Ft} {c : Str} {args : List VL.C} {env : En} {K : Fw → En → Prop} {X : XW} {fs : List Str} (h : Φ.ex c = some fs) (hl : args.length = fs.length) (k : wVals (wL Φ args) env (fun ts e1 => ts.length = fs.length ∧ X (.exc c fs ts) e1) X) : wS Φ (.raise c args) env K X := by
  simp only [wS]
  rw [h]
  exact ⟨hl, k⟩
def ExNR (Φ : Ft) : Prop := Φ.ex "NoRule" = some []
def S_rule_of (Φ : Ft) : Prop := ∃ r, Φ.fn "rule_of" = some ⟨[.rd, .rd], r⟩ ∧ (∀ (u : RuleW) (n : Int), u.Ok n → r [.sh, .sh] [u.t, .int n] = .ok (.val (obT u n)) [u.t, .int n]) ∧
  ∀ (t : T) (n : Int), Th t → ruleB n t = false → r [.sh, .sh] [t, .int n] = .exc (.exc "NoRule" [] []) [t, .int n]
theorem p_rule_of {Φ0 Φ : Ft} (h : Φ.fn "rule_of" = some (Df.fn Φ0 c_rule_of)) (HX : ExNR Φ0) (H1 : S_is_whole Φ0) (M : RulesMk Φ0) : S_rule_of Φ := by
  obtain ⟨r1, h1, q1, _, q2⟩ := H1
  obtain ⟨m1, m2, m3⟩ := M
  refine ⟨_, h, fun u n hu => run_rule ⟨rfl, rfl⟩ ?_, fun t n ht hb => run_rule ⟨rfl, rfl⟩ ?_⟩
  · cases u with
    | all => exact ⟨fun _ => ⟨_, m1, rfl, _, rfl, rfl⟩, fun z => absurd rfl z⟩
    | any => exact ⟨fun z => absurd z (by decide), fun _ => ⟨fun _ => ⟨_, m2, rfl, _, rfl, rfl⟩, fun z => absurd rfl z⟩⟩
    | num k => exact ⟨_, h1, _, q1 k, fun _ => ⟨fun _ => ⟨fun _ => ⟨_, m3, rfl, _, rfl, rfl⟩, fun z => absurd hu.2 z⟩, fun z => absurd hu.1 z⟩, nofun⟩
  · have q2 := q2 t
    have fin : wS Φ0 (.raise "NoRule" []) (env0 2 [.sh, .sh] [t, .int n]) (fun _ _ => True) (runX [.sh, .sh] [t, .int n] (.exc (.exc "NoRule" [] []) [t, .int n])) := raise_rule (K := fun _ _ => True) HX rfl ⟨rfl, _, rfl, rfl⟩
    cases ht with
    | non => exact ⟨_, h1, _, q2 (.inl (.inl rfl)), nofun, fun _ => fin⟩
    | bl => exact ⟨_, h1, _, q2 (.inl (.inr (.inl ⟨_, rfl⟩))), nofun, fun _ => fin⟩
    | lst => exact ⟨_, h1, _, q2 (.inr (.inr (.inl ⟨_, rfl⟩))), nofun, fun _ => fin⟩
    | dct => exact ⟨_, h1, _, q2 (.inr (.inr (.inr ⟨_, _, rfl⟩))), nofun, fun _ => fin⟩
    | tup => exact ⟨_, h1, _, q2 (.inr (.inl ⟨_, rfl⟩)), nofun, fun _ => fin⟩
    | @int i =>
      have hb := of_decide_eq_false hb
      exact ⟨_, h1, _, q1 i, fun _ => ⟨fun c1 => ⟨fun c2 => absurd ⟨c1, c2⟩ hb, fun _ => fin⟩, fun _ => fin⟩, nofun⟩
    | @str s =>
      rcases Bool.or_eq_false_iff.mp hb with ⟨hb1, hb2⟩
      exact ⟨fun z => absurd z (of_decide_eq_false hb1), fun _ => ⟨fun z => absurd z (of_decide_eq_false hb2), fun _ => ⟨_, h1, _, q2 (.inl (.inr (.inr ⟨_, rfl⟩))), nofun, fun _ => fin⟩⟩⟩
theorem fld_ok {Φ : Ft} {c f : Str} {fn : List Str} {fv : List T} {r : T} (h : Φ.kn c f = true) (e : look f fn fv = some r) : fldT Φ f (.ins c fn fv) = some r := by
  unfold fldT
  dsimp only
  rw [if_pos h]
  exact e
def S_wants (Φ : Ft) : Prop := ∀ u : RuleW, ∃ r, Φ.me u.cls "wants" = some ⟨[.rd], r⟩ ∧ ∀ n : Int, r [.sh] [obT u n] = .ok (.val (.int (u.wants n))) [obT u n]
theorem wants_of {Φ : Ft} {Fa Fy Fs : Ft} (h1 : Φ.me "All" "wants" = some (Df.fn Fa c_All_wants)) (h2 : Φ.me "Any" "wants" = some (Df.fn Fy c_Rule_wants)) (h3 : Φ.me "Some" "wants" = some (Df.fn Fs c_Some_wants))
    (k1 : Fa.kn "All" "count" = true) (k3 : Fs.kn "Some" "need" = true) : S_wants Φ := fun u => match u with
  | .all => ⟨_, h1, fun n => run_rule ⟨rfl, rfl⟩ ⟨_, fld_ok k1 rfl, _, rfl, rfl⟩⟩
  | .any => ⟨_, h2, fun n => run_rule ⟨rfl, rfl⟩ ⟨_, rfl, rfl⟩⟩
  | .num k => ⟨_, h3, fun n => run_rule ⟨rfl, rfl⟩ ⟨_, fld_ok k3 rfl, _, rfl, rfl⟩⟩
theorem any_wants {Φ F : Ft} (h : Φ.me "Any" "wants" = some (Df.fn F c_Rule_wants)) : ∃ r, Φ.me "Any" "wants" = some ⟨[.rd], r⟩ ∧ ∀ n : Int, r [.sh] [obT .any n] = .ok (.val (.int 1)) [obT .any n] := ⟨_, h, fun n => run_rule ⟨rfl, rfl⟩ ⟨_, rfl, rfl⟩⟩
theorem some_wants {Φ F : Ft} (h : Φ.me "Some" "wants" = some (Df.fn F c_Some_wants)) (k3 : F.kn "Some" "need" = true) (k : Int) : ∃ r, Φ.me "Some" "wants" = some ⟨[.rd], r⟩ ∧ ∀ n : Int, r [.sh] [obT (.num k) n] = .ok (.val (.int k)) [obT (.num k) n] := ⟨_, h, fun n => run_rule ⟨rfl, rfl⟩ ⟨_, fld_ok k3 rfl, _, rfl, rfl⟩⟩
/-! falls -/
theorem intsT_iL : ∀ xs : List Int, intsT (iL xs) = some xs
  | [] => rfl
  | x :: xs => by
    show (intsT (iL xs)).map (x :: ·) = _
    rw [intsT_iL xs]; rfl
theorem sortI_len : ∀ xs : List Int, (sortI xs).length = xs.length := fun xs => (sortI_perm xs).length_eq
def keepT : T → Option T
  | .non => none
  | t => some t
theorem known_T : ∀ bs : List (Option Int), ((btT bs).map keepT).filterMap id = iL (bs.filterMap id)
  | [] => rfl
  | none :: bs => known_T bs
  | some b :: bs => by
    show T.int b :: ((btT bs).map keepT).filterMap id = _
    rw [known_T bs]; rfl
theorem filterMap_le (bs : List (Option Int)) : (bs.filterMap id).length ≤ bs.length := List.length_filterMap_le _ _
theorem sorted_ok {xs : List Int} (h : xs.length < 64) : biT .sorted [.lst (iL xs)] = some (.own (.lst (iL (sortI xs)))) := by
  show sortT (iL xs) = _
  unfold sortT
  rw [intsT_iL]
  show (if xs.length < 64 then _ else _) = _
  rw [if_pos h]
def S_falls1 (Φ : Ft) (u : RuleW) : Prop := ∃ r, Φ.me u.cls "falls" = some ⟨[.rd, .rd], r⟩ ∧ ∀ (n : Int) (bs : List (Option Int)) (m : Md), m ≠ .io → (bs.length : Int) = n → 1 ≤ n → n ≤ 60 → u.Ok n → r [.sh, m] [obT u n, .lst (btT bs)] = .ok (.val (optT (fallsL (u.wants n) bs))) [obT u n, .lst (btT bs)]
def S_falls (Φ : Ft) : Prop := ∀ u : RuleW, S_falls1 Φ u
theorem look_none (u : RuleW) (n : Int) : look "wants" u.fn (u.fv n) = none ∧ look "falls" u.fn (u.fv n) = none := by cases u <;> exact ⟨rfl, rfl⟩
theorem rule_falls {Φ0 Φ : Ft} {u : RuleW} (h : Φ.me u.cls "falls" = some (Df.fn Φ0 c_Rule_falls)) (W : ∃ r, Φ0.me u.cls "wants" = some ⟨[.rd], r⟩ ∧ ∀ n : Int, r [.sh] [obT u n] = .ok (.val (.int (u.wants n))) [obT u n]) : S_falls1 Φ u := by
  obtain ⟨r1, h1, q1⟩ := W
  refine ⟨_, h, fun n bs m hm hn hn1 hn2 hu => run_rule ⟨rfl, rfl⟩ ?_⟩
  obtain ⟨w1, w2⟩ := u.wants_in hn1 hu
  have hl : (bs.filterMap id).length < 64 := by have := filterMap_le bs; omega
  have step : ∀ (j : Nat) (t : T) (v : Option T), (btT bs)[j]? = some t → ((btT bs).map keepT)[j]? = some v →
    v = keepT t ∧ (t = .non ∨ ∃ i, t = .int i) := fun j t v e1 e2 => by
      rw [List.getElem?_map, e1] at e2
      cases e2
      rw [List.getElem?_map] at e1
      obtain ⟨b, _, rfl⟩ := Option.map_eq_some_iff.mp e1
      exact ⟨rfl, by cases b with
        | none => exact .inl rfl
        | some i => exact .inr ⟨i, rfl⟩⟩
  have go : ∀ (m' : Md), m' = .sh ∨ m' = .bor → wSs Φ0 c_Rule_falls.body (env0 4 [.sh, m'] [obT u n, .lst (btT bs)]) (runK [.sh, m'] [obT u n, .lst (btT bs)] (.ok (.val (optT (fallsL (u.wants n) bs))) [obT u n, .lst (btT bs)])) (runX [.sh, m'] [obT u n, .lst (btT bs)] (.ok (.val (optT (fallsL (u.wants n) bs))) [obT u n, .lst (btT bs)])) := by
    rintro m' (rfl | rfl)
    all_goals
      refine ⟨_, rfl, ?_⟩
      refine lcf_rule ((btT bs).map keepT) ⟨⟨by simp, len_le (by simp; omega)⟩, fun j t v e1 e2 => ?_, ?_⟩
      · obtain ⟨rfl, ht⟩ := step j t v e1 e2
        rcases ht with rfl | ⟨i, rfl⟩
        · exact ⟨rfl, rfl⟩
        · exact ⟨rfl, rfl⟩
      · refine ⟨.own (.lst (iL (sortI (bs.filterMap id)))), ?_, ?_⟩
        · show biT .sorted [.lst (((btT bs).map keepT).filterMap id)] = _
          rw [known_T]
          exact sorted_ok hl
        · refine ⟨_, h1, (look_none u n).1, _, q1 n, fun z => ?_, fun z => ⟨_, h1, (look_none u n).1, _, q1 n, ?_⟩⟩
          · refine ⟨_, rfl, ?_⟩
            have : fallsL (u.wants n) bs = none := by
              unfold fallsL
              rw [List.getElem?_eq_none]
              simp at z
              omega
            rw [this]; rfl
          · have z' : (u.wants n - 1).toNat < (sortI (bs.filterMap id)).length := by
              simp at z
              omega
            refine ⟨.int ((sortI (bs.filterMap id)).getD (u.wants n - 1).toNat 0), iL_get (by omega) z', _, rfl, ?_⟩
            unfold fallsL
            rw [List.getD_eq_getElem?_getD, List.getElem?_eq_getElem z']
            rfl
  cases m with
  | sh => exact go .sh (.inl rfl)
  | bor => exact go .bor (.inr rfl)
  | io => exact absurd rfl hm
theorem sorted_get {xs : List Int} {i j : Nat} (h : xs.Pairwise (· ≤ ·)) (hij : i ≤ j) (hj : j < xs.length) : xs[i]'(by omega) ≤ xs[j] := by
  rcases Nat.lt_or_eq_of_le hij with h1 | h1
  · exact List.pairwise_iff_getElem.mp h i j (by omega) hj h1
  · subst h1; exact Int.le_refl _
theorem max_last {xs : List Int} {m : Int} (h : maxI xs = some m) : (sortI xs)[xs.length - 1]? = some m := by
  obtain ⟨h0, hm⟩ := maxI_is h
  have hl : xs.length - 1 < (sortI xs).length := by rw [sortI_len]; omega
  rw [List.getElem?_eq_getElem hl]
  congr 1
  refine hm _ ((sortI_perm xs).mem_iff.mp (List.getElem_mem hl)) fun y hy => ?_
  have hy' := (sortI_perm xs).mem_iff.mpr hy
  obtain ⟨i, hi, rfl⟩ := List.getElem_of_mem hy'
  exact sorted_get (sortI_sorted xs) (by rw [sortI_len] at hi; omega) hl
theorem maxI_some {xs : List Int} (h : 0 < xs.length) : ∃ m, maxI xs = some m := by
  cases xs with
  | nil => cases h
  | cons x xs => exact ⟨_, rfl⟩
theorem eqT_non {b : Option Int} : eqT (optT b) .non = b.isNone := by
  cases b with
  | none => unfold eqT optT toPD; simp [PyData.eqv]
  | some i => unfold eqT optT toPD; simp [PyData.eqv]
theorem in_non (bs : List (Option Int)) : cmpT .In .non (.lst (btT bs)) = some (bs.any Option.isNone) := by
  have hf : (btT bs).all flatT = true := by
    rw [List.all_eq_true]
    intro t ht
    obtain ⟨b, _, rfl⟩ := List.mem_map.mp ht
    cases b <;> rfl
  show (if flatT .non && (btT bs).all flatT then some (inT .non (btT bs)) else none) = _
  rw [hf]
  show some (inT .non (btT bs)) = _
  unfold inT
  rw [List.any_map]
  congr 2
  funext b
  exact eqT_non
theorem all_some : ∀ {bs : List (Option Int)}, bs.any Option.isNone = false → bs = (bs.filterMap id).map some
  | [], _ => rfl
  | none :: bs, h => by simp at h
  | some b :: bs, h => by
    have := all_some (bs := bs) (by simpa using h)
    simp only [List.filterMap_cons, id_eq, List.map_cons]
    rw [← this]
theorem none_less : ∀ {bs : List (Option Int)}, bs.any Option.isNone = true → (bs.filterMap id).length < bs.length
  | none :: bs, _ => by
    have := filterMap_le bs
    simp only [List.filterMap_cons, id_eq, List.length_cons]
    omega
  | some b :: bs, h => by
    have := none_less (bs := bs) (by simpa using h)
    simp only [List.filterMap_cons, id_eq, List.length_cons]
    omega
theorem all_falls {Φ0 Φ : Ft} (h : Φ.me "All" "falls" = some (Df.fn Φ0 c_All_falls)) : S_falls1 Φ .all := by
  refine ⟨_, h, fun n bs m hm hn hn1 hn2 hu => run_rule ⟨rfl, rfl⟩ ?_⟩
  have go : ∀ (m' : Md), m' = .sh ∨ m' = .bor → wSs Φ0 c_All_falls.body (env0 2 [.sh, m'] [obT .all n, .lst (btT bs)]) (runK [.sh, m'] [obT .all n, .lst (btT bs)] (.ok (.val (optT (fallsL (RuleW.all.wants n) bs))) [obT .all n, .lst (btT bs)])) (runX [.sh, m'] [obT .all n, .lst (btT bs)] (.ok (.val (optT (fallsL (RuleW.all.wants n) bs))) [obT .all n, .lst (btT bs)])) := by
    rintro m' (rfl | rfl)
    all_goals
      refine ⟨_, in_non bs, fun z => ⟨_, rfl, ?_⟩, fun z => ?_⟩
      · have e := none_less z
        have : fallsL (RuleW.all.wants n) bs = none := by
          unfold fallsL
          rw [List.getElem?_eq_none]
          rw [sortI_len]
          show _ ≤ (n - 1).toNat
          omega
        rw [this]; rfl
      · have e := all_some z
        have hl : (bs.filterMap id).length = bs.length := by
          have := congrArg List.length e
          rw [List.length_map] at this
          exact this.symm
        obtain ⟨x, hx⟩ := maxI_some (xs := bs.filterMap id) (by omega)
        refine ⟨.val (.int x), ?_, _, rfl, ?_⟩
        · show ((intsT (btT bs)).bind maxI).map _ = _
          have : btT bs = iL (bs.filterMap id) := by
            conv => lhs; rw [e]
            exact List.map_map
          rw [this, intsT_iL, Option.bind_some, hx]
          rfl
        · have : fallsL (RuleW.all.wants n) bs = some x := by
            unfold fallsL
            have := max_last hx
            rw [show (RuleW.all.wants n - 1).toNat = (bs.filterMap id).length - 1 by show (n - 1).toNat = _; omega]
            exact this
          rw [this]; rfl
  cases m with
  | sh => exact go .sh (.inl rfl)
  | bor => exact go .bor (.inr rfl)
  | io => exact absurd rfl hm
theorem falls_of {Φ : Ft} {Fa Fy Fs : Ft} (h1 : Φ.me "All" "falls" = some (Df.fn Fa c_All_falls)) (h2 : Φ.me "Any" "falls" = some (Df.fn Fy c_Rule_falls)) (h3 : Φ.me "Some" "falls" = some (Df.fn Fs c_Rule_falls)) (w2 : ∃ r, Fy.me "Any" "wants" = some ⟨[.rd], r⟩ ∧ ∀ n : Int, r [.sh] [obT .any n] = .ok (.val (.int 1)) [obT .any n])
    (w3 : ∀ k, ∃ r, Fs.me "Some" "wants" = some ⟨[.rd], r⟩ ∧ ∀ n : Int, r [.sh] [obT (.num k) n] = .ok (.val (.int k)) [obT (.num k) n]) : S_falls Φ := fun u => match u with
  | .all => all_falls h1
  | .any => rule_falls (u := .any) h2 w2
  | .num k => rule_falls (u := .num k) h3 (w3 k)
end VL

set_option maxHeartbeats 4000000
namespace VL
open PySem PySem.Spec PyProof.Rows L2
/-! ### the draws of the choirs: a pack that goes on -/
abbrev iob (ts : List T) : Slot := some (.io, .lst ts)
/-- the pack: goes by its cells or not; the cell; the next one's place; the script; the ball; how many times -/
abbrev packT (b : Bool) (c i : Int) (ns : List Int) (r k : Int) : List T := [.bl b, .int c, .int i, .scr ns, .int r, .int k]
def PackOk (ns : List Int) (ts : List T) : Prop := ∃ (b : Bool) (c i r k : Int), ts = packT b c i ns r k ∧ 0 ≤ i ∧ 0 ≤ r ∧ r < 998244359987 ∧ 0 ≤ k
def S__law_nth (Φ : Ft) : Prop := ∃ r, Φ.fn "_law_nth" = some ⟨[.rd, .rd], r⟩ ∧ ∀ (ns : List Int) (k : Int), 0 ≤ k → r [.sh, .sh] [.scr ns, .int k] = .ok (.val (.int (cellI ns k))) [.scr ns, .int k]
theorem p__law_nth {Φ0 Φ : Ft} (h : Φ.fn "_law_nth" = some (Df.fn Φ0 c__law_nth)) : S__law_nth Φ := by
  refine ⟨_, h, fun ns k h0 => run_rule ⟨rfl, rfl⟩ ⟨fun h => ?_, fun h => ?_⟩⟩
  · refine ⟨.int (ns.getD k.toNat 0), ?_, _, rfl, ?_⟩
    · show (atI ns k).map T.int = _
      rw [atI_nat (x := ns.getD k.toNat 0) h0 (by rw [List.getD_eq_getElem?_getD, List.getElem?_eq_getElem (by omega)]; rfl)]
      rfl
    · unfold cellI; rw [if_pos h]
  · refine ⟨_, rfl, ?_⟩
    unfold cellI; rw [if_neg h]
def S__law_pack_k21 (Φ : Ft) : Prop := ∃ r, Φ.fn "_law_pack" = some ⟨[.rd], r⟩ ∧ ∀ ns : List Int, ∃ ts, r [.sh] [.scr ns] = .ok (.own (.lst ts)) [.scr ns] ∧ PackOk ns ts
theorem p__law_pack_k21 {Φ0 Φ : Ft} (h : Φ.fn "_law_pack" = some (Df.fn Φ0 c__law_pack_k21)) (H1 : S__law_nth Φ0) : S__law_pack_k21 Φ := by
  obtain ⟨r1, h1, q1⟩ := H1
  refine ⟨_, h, fun ns => ?_⟩
  suffices hx : ∃ o outs, runDf Φ0 c__law_pack_k21 [.sh] [.scr ns] = .ok o outs ∧ ∃ ts, o = .own (.lst ts) ∧ outs = [.scr ns] ∧ PackOk ns ts by
    obtain ⟨_, _, h1, ts, rfl, rfl, h2⟩ := hx; exact ⟨ts, h1, h2⟩
  refine run_ex ⟨rfl, rfl⟩ ⟨_, h1, _, q1 ns 0 (by decide), by decide, ?_⟩
  refine ⟨_, h1, _, q1 ns 1 (by decide), _, rfl, _, rfl, rfl, _, _, _, _, _, rfl, by decide, by decide, by decide, by decide⟩
def S__law_next (Φ : Ft) : Prop := ∃ r, Φ.fn "_law_next" = some ⟨[.io], r⟩ ∧ ∀ (ns : List Int) (ts : List T), PackOk ns ts → ∃ us, r [.io] [.lst ts] = .ok (.val .non) [.lst us] ∧ PackOk ns us
theorem p__law_next {Φ0 Φ : Ft} (h : Φ.fn "_law_next" = some (Df.fn Φ0 c__law_next)) (H1 : S__law_nth Φ0) : S__law_next Φ := by
  obtain ⟨r1, h1, q1⟩ := H1
  refine ⟨_, h, fun ns ts ⟨b, c, i, r, k, e, i0, r0, r1, k0⟩ => ?_⟩
  subst e
  suffices hx : ∃ o outs, runDf Φ0 c__law_next [.io] [.lst (packT b c i ns r k)] = .ok o outs ∧ ∃ ts, o = .val .non ∧ outs = [.lst ts] ∧ PackOk ns ts by
    obtain ⟨_, _, h1, ts, rfl, rfl, h2⟩ := hx; exact ⟨ts, h1, h2⟩
  refine run_ex ⟨rfl, rfl⟩ ?_
  cases b with
  | true =>
    refine ⟨_, rfl, fun _ => ?_, nofun⟩
    refine ⟨_, h1, _, rfl, _, rfl, _, q1 ns i i0, _, rfl, ?_⟩
    refine ⟨_, rfl, _, rfl, _, rfl, _, rfl, rfl, _, _, _, _, _, rfl, by omega, r0, r1, k0⟩
  | false =>
    exact ⟨_, rfl, nofun, fun _ => ⟨_, rfl, _, rfl, rfl, _, _, _, _, _, rfl, i0, r0, r1, k0⟩⟩
theorem cmp_scr (ns : List Int) : cmpT .NotEq (.scr ns) (.lst []) = some (!decide (ns = [])) := by
  refine (cmp_eq (by unfold datT; rfl) (by unfold datT datTL; rfl) ?_ fun s z => by cases z).2
  unfold eqT
  simp only [toPD, PyData.eqv]
  cases ns with
  | nil => simp [toPDL, PyData.eqvAll]
  | cons n ns => simp [toPDL, PyData.eqvAll]
theorem ix_scr {ns : List Int} {k : Int} (h0 : 0 ≤ k) (h : k.toNat < ns.length) : ixT (.scr ns) (.int k) = some (.int (ns.getD k.toNat 0)) := by
  show (atI ns k).map T.int = _
  rw [atI_nat (x := ns.getD k.toNat 0) h0 (by rw [List.getD_eq_getElem?_getD, List.getElem?_eq_getElem h]; rfl)]
  rfl
def S__law_draw (Φ : Ft) : Prop := ∃ r, Φ.fn "_law_draw" = some ⟨[.io, .rd], r⟩ ∧ ∀ (ns : List Int) (ts : List T) (m : Int), PackOk ns ts → 0 < m → m < 1073741824 → ∃ (us : List T) (d : Int), r [.io, .sh] [.lst ts, .int m] = .ok (.val (.int d)) [.lst us, .int m] ∧ PackOk ns us ∧ 0 ≤ d ∧ d < m
theorem p__law_draw {Φ0 Φ : Ft} (h : Φ.fn "_law_draw" = some (Df.fn Φ0 c__law_draw)) : S__law_draw Φ := by
  refine ⟨_, h, fun ns ts m ⟨b, c, i, r, k, e, i0, r0, r1, k0⟩ hm hd => ?_⟩
  subst e
  suffices hx : ∃ o outs, runDf Φ0 c__law_draw [.io, .sh] [.lst (packT b c i ns r k), .int m] = .ok o outs ∧ ∃ ts d, o = .val (.int d) ∧ outs = [.lst ts, .int m] ∧ PackOk ns ts ∧ 0 ≤ d ∧ d < m by
    obtain ⟨_, _, h1, ts, d, rfl, rfl, h2⟩ := hx; exact ⟨ts, d, h1, h2⟩
  have tail : wSs Φ0 (c__law_draw.body.drop 1) (env0 6 [.io, .sh] [.lst (packT b c i ns r k), .int m]) (runQ [.io, .sh] [.lst (packT b c i ns r k), .int m] fun o outs => ∃ ts d, o = .val (.int d) ∧ outs = [.lst ts, .int m] ∧ PackOk ns ts ∧ 0 ≤ d ∧ d < m) fun _ _ => False := by
    have fin : ∀ cell : Int, 0 ≤ cell → wSs Φ0 (c__law_draw.body.drop 3) [iob (packT b c i ns r k), vi m, none, none, vi cell, none] (runQ [.io, .sh] [.lst (packT b c i ns r k), .int m] fun o outs => ∃ ts d, o = .val (.int d) ∧ outs = [.lst ts, .int m] ∧ PackOk ns ts ∧ 0 ≤ d ∧ d < m) fun _ _ => False := by
      intro cell hc
      obtain ⟨n0, n1⟩ := mod_lt (a := r * r + 90001 * cell + 577 * (k + 1)) (b := 998244359987) (by decide)
      refine ⟨_, rfl, _, rfl, _, rfl, _, rfl, okm_l (by omega), ?_⟩
      refine ⟨okm_l (by decide), _, rfl, okm_l (by decide), by decide, _, rfl, ?_⟩
      refine ⟨_, rfl, by decide, okm_r (by decide), by decide, hm, ?_⟩
      exact ⟨_, rfl, _, _, rfl, rfl, ⟨_, _, _, _, _, rfl, i0, n0, n1, by omega⟩, mod_lt hm⟩
    refine ⟨_, rfl, _, cmp_scr ns, fun z => ?_, fun _ => fin 7 (by decide)⟩
    have hns : 0 < ns.length := by
      cases ns with
      | nil => simp at z
      | cons n ns => simp
    obtain ⟨m0, m1⟩ := mod_lt (a := k) (b := (ns.length : Int)) (by omega)
    refine ⟨_, rfl, _, rfl, _, rfl, (show 0 < (ns.length : Int) by omega), _, ix_scr m0 (by omega), by decide, ?_⟩
    exact fin _ (mod_lt (by decide)).1
  refine run_ex ⟨rfl, rfl⟩ ?_
  cases b with
  | false => exact ⟨_, rfl, nofun, fun _ => tail⟩
  | true =>
    refine ⟨_, rfl, fun _ => ⟨_, rfl, ?_⟩, nofun⟩
    refine ⟨_, rfl, fun _ => ?_, fun _ => tail⟩
    refine ⟨_, rfl, _, if_pos ⟨hm, hd⟩, rfl, ?_⟩
    exact ⟨_, rfl, _, rfl, _, _, rfl, rfl, ⟨_, _, _, _, _, rfl, i0, r0, r1, k0⟩, mod_lt hm⟩
/-! ### bells -/
/-- a listening: to whom, beats, of the stroke ahead -/
structure Li where
  w : Nat
  b : Int
  k : Bool
def Li.t (l : Li) : T := .tup [.int l.w, .int l.b, .int (if l.k then 1 else 0)]
structure Be where
  nm : Str
  st : Int
  u : RuleW
  ls : List Li
def Be.t (b : Be) : T := .tup [.str b.nm, .int b.st, b.u.t, .tup (b.ls.map Li.t)]
def Li.Ok (n : Nat) (l : Li) : Prop := l.w < n ∧ 1 ≤ l.b ∧ l.b ≤ 1000
structure Be.Ok (n : Nat) (b : Be) : Prop where
  st : 0 ≤ b.st ∧ b.st ≤ 1000
  len : 1 ≤ b.ls.length ∧ b.ls.length ≤ 6
  u : b.u.Ok b.ls.length
  ls : ∀ l ∈ b.ls, l.Ok n
def S__law_listening (Φ : Ft) : Prop := ∃ r, Φ.fn "_law_listening" = some ⟨[.io, .rd, .rd, .rd], r⟩ ∧ ∀ (ns : List Int) (ts : List T) (k n : Nat) (z : Bool), PackOk ns ts → 0 < n → n ≤ 1000 →
  ∃ (us : List T) (l : Li), r [.io, .sh, .sh, .sh] [.lst ts, .int k, .int n, .bl z] = .ok (.val l.t) [.lst us, .int k, .int n, .bl z] ∧ PackOk ns us ∧ l.Ok n ∧ (z = false → k ≤ l.w → l.k = true)
theorem four {j : Int} (h0 : 0 ≤ j) (h1 : j < 4) : ∃ v : Int, ixT (.lst [.int 4, .int 9, .int 60, .int 1000]) (.int j) = some (.int v) ∧ 4 ≤ v ∧ v ≤ 1000 := by
  have : j = 0 ∨ j = 1 ∨ j = 2 ∨ j = 3 := by omega
  rcases this with rfl | rfl | rfl | rfl
  · exact ⟨4, rfl, by decide, by decide⟩
  · exact ⟨9, rfl, by decide, by decide⟩
  · exact ⟨60, rfl, by decide, by decide⟩
  · exact ⟨1000, rfl, by decide, by decide⟩
theorem p__law_listening {Φ0 Φ : Ft} (h : Φ.fn "_law_listening" = some (Df.fn Φ0 c__law_listening)) (H1 : S__law_draw Φ0) : S__law_listening Φ := by
  obtain ⟨r1, h1, q1⟩ := H1
  refine ⟨_, h, fun ns ts k n z p hn hn2 => ?_⟩
  suffices hx : ∃ o outs, runDf Φ0 c__law_listening [.io, .sh, .sh, .sh] [.lst ts, .int k, .int n, .bl z] = .ok o outs ∧ ∃ us l, o = .val (Li.t l) ∧ outs = [.lst us, .int k, .int n, .bl z] ∧ PackOk ns us ∧ l.Ok n ∧ (z = false → k ≤ l.w → l.k = true) by
    obtain ⟨_, _, h1, us, l, rfl, rfl, h2⟩ := hx; exact ⟨us, l, h1, h2⟩
  obtain ⟨u1, w, e1, p1, w0, w1⟩ := q1 ns ts n p (by omega) (by omega)
  obtain ⟨u2, j, e2, p2, j0, j1⟩ := q1 ns u1 4 p1 (by decide) (by decide)
  obtain ⟨v, ev, v0, v1⟩ := four j0 j1
  obtain ⟨u3, b, e3, p3, b0, b1⟩ := q1 ns u2 v p2 (by omega) (by omega)
  obtain ⟨u4, c, e4, p4, c0, c1⟩ := q1 ns u3 3 p3 (by decide) (by decide)
  obtain ⟨w, rfl⟩ := Int.eq_ofNat_of_zero_le w0
  have lo : ∀ kk : Bool, Li.Ok n ⟨w, 1 + b, kk⟩ := fun kk => ⟨by show w < n; omega, by show 1 ≤ 1 + b; omega, by show 1 + b ≤ 1000; omega⟩
  refine run_ex ⟨rfl, rfl⟩ ⟨_, h1, _, e1, _, h1, _, h1, _, e2, _, ev, _, e3, _, h1, _, e4, fun hz => ?_, fun hz => ?_⟩
  · cases z with
    | false => exact ⟨nofun, fun _ => ⟨_, rfl, u4, ⟨w, 1 + b, true⟩, rfl, rfl, p4, lo _, fun _ _ => rfl⟩⟩
    | true => exact ⟨fun _ => ⟨_, rfl, u4, ⟨w, 1 + b, decide (0 < c)⟩, rfl, rfl, p4, lo _, nofun⟩, nofun⟩
  · exact ⟨_, rfl, u4, ⟨w, 1 + b, decide (0 < c)⟩, rfl, rfl, p4, lo _, fun _ h => absurd (show (k : Int) ≤ w by exact_mod_cast h) hz⟩
/-! the rule -/
def S__law_rule_k21 (Φ : Ft) : Prop := ∃ r, Φ.fn "_law_rule" = some ⟨[.io, .rd, .rd], r⟩ ∧ ∀ (ns : List Int) (ts : List T) (s n : Int), PackOk ns ts → 1 ≤ n → n ≤ 1000 →
  ∃ (us : List T) (u : RuleW), r [.io, .sh, .sh] [.lst ts, .int s, .int n] = .ok (.val u.t) [.lst us, .int s, .int n] ∧ PackOk ns us ∧ u.Ok n
theorem p__law_rule_k21 {Φ0 Φ : Ft} (h : Φ.fn "_law_rule" = some (Df.fn Φ0 c__law_rule_k21)) (H1 : S__law_draw Φ0) : S__law_rule_k21 Φ := by
  obtain ⟨r1, h1, q1⟩ := H1
  refine ⟨_, h, fun ns ts s n p hn hn2 => ?_⟩
  suffices hx : ∃ o outs, runDf Φ0 c__law_rule_k21 [.io, .sh, .sh] [.lst ts, .int s, .int n] = .ok o outs ∧ ∃ us u, o = .val (RuleW.t u) ∧ outs = [.lst us, .int s, .int n] ∧ PackOk ns us ∧ u.Ok n by
    obtain ⟨_, _, h1, us, l, rfl, rfl, h2⟩ := hx; exact ⟨us, l, h1, h2⟩
  refine run_ex ⟨rfl, rfl⟩ ⟨fun _ => ?_, fun _ => ⟨fun _ => ?_, fun _ => ?_⟩⟩
  · obtain ⟨u1, w, e1, p1, w0, w1⟩ := q1 ns ts 2 p (by decide) (by decide)
    have : w = 0 ∨ w = 1 := by omega
    rcases this with rfl | rfl
    · exact ⟨_, h1, _, e1, _, rfl, _, rfl, u1, .all, rfl, rfl, p1, trivial⟩
    · exact ⟨_, h1, _, e1, _, rfl, _, rfl, u1, .num n, rfl, rfl, p1, hn, Int.le_refl _⟩
  · obtain ⟨u1, w, e1, p1, w0, w1⟩ := q1 ns ts 2 p (by decide) (by decide)
    have : w = 0 ∨ w = 1 := by omega
    rcases this with rfl | rfl
    · exact ⟨_, h1, _, e1, _, rfl, _, rfl, u1, .any, rfl, rfl, p1, trivial⟩
    · exact ⟨_, h1, _, e1, _, rfl, _, rfl, u1, .num 1, rfl, rfl, p1, Int.le_refl _, hn⟩
  · obtain ⟨u0, v, e0, p0, v0, v1⟩ := q1 ns ts n p (by omega) (by omega)
    obtain ⟨u1, w, e1, p1, w0, w1⟩ := q1 ns u0 3 p0 (by decide) (by decide)
    have : w = 0 ∨ w = 1 ∨ w = 2 := by omega
    rcases this with rfl | rfl | rfl
    · exact ⟨_, h1, _, e0, _, h1, _, e1, _, rfl, _, rfl, u1, .all, rfl, rfl, p1, trivial⟩
    · exact ⟨_, h1, _, e0, _, h1, _, e1, _, rfl, _, rfl, u1, .any, rfl, rfl, p1, trivial⟩
    · exact ⟨_, h1, _, e0, _, h1, _, e1, _, rfl, _, rfl, u1, .num (1 + v), rfl, rfl, p1, by omega, by omega⟩
end VL

set_option maxHeartbeats 4000000
namespace VL
open PySem PySem.Spec PyProof.Rows L2
theorem nodup_len {α : Type} [DecidableEq α] : ∀ {xs ys : List α}, xs.Nodup → (∀ x ∈ xs, x ∈ ys) → xs.length ≤ ys.length
  | [], _, _, _ => Nat.zero_le _
  | x :: xs, ys, hn, hs => by
    have h := nodup_len (xs := xs) (ys := ys.erase x) (List.nodup_cons.mp hn).2 fun y hy => by
      have hne : y ≠ x := fun e => (List.nodup_cons.mp hn).1 (e ▸ hy)
      exact (List.mem_erase_of_ne hne).mpr (hs y (List.mem_cons_of_mem _ hy))
    have := List.length_erase_of_mem (hs x (List.mem_cons_self ..))
    have h0 : 0 < ys.length := List.length_pos_of_mem (hs x (List.mem_cons_self ..))
    rw [List.length_cons]
    omega
abbrev sL (xs : List Str) : List T := xs.map .str
theorem in_strs (s : Str) (xs : List Str) : cmpT .In (.str s) (.lst (sL xs)) = some (decide (s ∈ xs)) := by
  have hf : (sL xs).all flatT = true := by
    rw [List.all_eq_true]
    intro t ht
    obtain ⟨b, _, rfl⟩ := List.mem_map.mp ht
    rfl
  show (if flatT (.str s) && (sL xs).all flatT then some (inT (.str s) (sL xs)) else none) = _
  rw [hf]
  show some (inT (.str s) (sL xs)) = _
  unfold inT
  rw [List.any_map]
  congr 1
  rw [Bool.eq_iff_iff, List.any_eq_true, decide_eq_true_iff]
  constructor
  · rintro ⟨x, hx, e⟩
    have : eqT (.str x) (.str s) = true := e
    rw [eqT_str] at this
    rw [← of_decide_eq_true this]; exact hx
  · intro hx
    refine ⟨s, hx, ?_⟩
    show eqT (.str s) (.str s) = true
    rw [eqT_str]; exact decide_eq_true rfl
theorem notin_strs (s : Str) (xs : List Str) : cmpT .NotIn (.str s) (.lst (sL xs)) = some (!decide (s ∈ xs)) := by
  have h := in_strs s xs
  have hf : (sL xs).all flatT = true := by
    rw [List.all_eq_true]
    intro t ht
    obtain ⟨b, _, rfl⟩ := List.mem_map.mp ht
    rfl
  have h2 : (if flatT (.str s) && (sL xs).all flatT then some (inT (.str s) (sL xs)) else none) = some (decide (s ∈ xs)) := h
  show (if flatT (.str s) && (sL xs).all flatT then some (!inT (.str s) (sL xs)) else none) = _
  rw [hf] at h2 ⊢
  have h2 : some (inT (.str s) (sL xs)) = some (decide (s ∈ xs)) := h2
  show some (!inT (.str s) (sL xs)) = _
  rw [Option.some.inj h2]
def letters : Str := "abcdefghijklmnopqrstuvwxyz"
def ring : Str := "ring"
def cands : List Str := letters.cps.toList.map fun c => (⟨#[c]⟩ : Str) ++ ring
theorem cands_nodup : cands.Nodup := by decide +kernel
theorem cands_len : cands.length = 26 := by decide +kernel
theorem cands_short : ∀ s ∈ cands, s.length = 5 := by decide +kernel
theorem str_len (a b : Str) : (a ++ b).length = a.length + b.length := by
  show (a.cps ++ b.cps).size = _
  rw [Array.size_append]
  rfl
/-- a name: short, of signs that are -/
def NmOk (n : Nat) (s : Str) : Prop := s.length ≤ n ∧ PyData.strOk s = true
theorem NmOk.mono {n m : Nat} {s : Str} (h : NmOk n s) (e : n ≤ m) : NmOk m s := ⟨Nat.le_trans h.1 e, h.2⟩
theorem strOk_app {a b : Str} (h1 : PyData.strOk a = true) (h2 : PyData.strOk b = true) : PyData.strOk (a ++ b) = true := by
  show (a.cps ++ b.cps).all (· < 0x110000) = true
  rw [Array.all_append]
  exact Bool.and_eq_true_iff.mpr ⟨h1, h2⟩
theorem NmOk.app {n m : Nat} {a b : Str} (h1 : NmOk n a) (h2 : NmOk m b) : NmOk (n + m) (a ++ b) := ⟨by rw [str_len]; exact Nat.add_le_add h1.1 h2.1, strOk_app h1.2 h2.2⟩
theorem NmOk.cut {n : Nat} {s : Str} (h : PyData.strOk s = true) {k : Int} (h0 : 0 ≤ k) (hk : k.toNat ≤ n) : NmOk n ⟨(cutT s.cps.toList none (some k)).toArray⟩ := by
  have e : cutT s.cps.toList none (some k) = s.cps.toList.take (min k.toNat s.cps.toList.length) := by
    have e1 : HT.sIx s.cps.toList.length 0 none = 0 := rfl
    have e2 : HT.sIx s.cps.toList.length s.cps.toList.length (some k) = min k.toNat s.cps.toList.length := by
      show (if _ < (0 : Int) then _ else min _ _) = _
      rw [if_neg (by omega)]
    unfold cutT
    rw [e1, e2, List.drop_zero, Nat.sub_zero]
  rw [e]
  refine ⟨?_, ?_⟩
  · show (List.toArray _).size ≤ n
    rw [List.size_toArray, List.length_take]
    omega
  · show (List.toArray _).all (· < 0x110000) = true
    rw [List.all_toArray, List.all_eq_true]
    intro x hx
    have h : s.cps.all (· < 0x110000) = true := h
    rw [← Array.all_toList, List.all_eq_true] at h
    exact h x (List.mem_of_mem_take hx)
theorem datT_str {d : Nat} {s : Str} (h : PyData.strOk s = true) : datT d (.str s) = true := by cases d <;> (unfold datT; exact h)
theorem cmp_strs {seen : List Str} (h : ∀ s ∈ seen, NmOk 8 s) : cmpT .NotEq (.lst (sL seen)) (.lst []) = some (!decide (seen = [])) := by
  refine (cmp_eq (datT_lst (datTL_all fun t ht => ?_)) (by unfold datT datTL; rfl) (v := decide (seen = [])) ?_ fun s z => by cases z).2
  · obtain ⟨s, hs, rfl⟩ := List.mem_map.mp ht
    exact datT_str (h s hs).2
  · rw [eqT_lst]
    cases seen with
    | nil => exact eqTL_nil
    | cons s r =>
      show eqTL (T.str s :: sL r) [] = _
      rw [eqTL_cn]; simp
theorem letter {d : Int} (h0 : 0 ≤ d) (h1 : d < 26) : ∃ s : Str, ixT (.str letters) (.int d) = some (.str s) ∧ NmOk 1 s := by
  have e : ixT (.str letters) (.int d) = if letters.length ≤ LIM then (atI letters.cps.toList d).map fun c => .str ⟨#[c]⟩ else none := rfl
  have hl : letters.length = 26 := by decide +kernel
  have hl2 : letters.cps.toList.length = 26 := by decide +kernel
  have ha : ∀ c ∈ letters.cps.toList, PyData.strOk ⟨#[c]⟩ = true := by decide +kernel
  rw [e, if_pos (by rw [hl]; exact len_le (by decide)), atI_nat (x := letters.cps.toList[d.toNat]'(by omega)) h0 (List.getElem?_eq_getElem (by omega))]
  exact ⟨_, rfl, Nat.le_refl _, ha _ (List.getElem_mem _)⟩
theorem cands_ok : ∀ s ∈ cands, NmOk 8 s := fun s hs => ⟨by rw [cands_short s hs]; decide, (by decide +kernel : ∀ s ∈ cands, PyData.strOk s = true) s hs⟩
theorem fresh {seen : List Str} (h : seen.length ≤ 20) : ∃ s r, (cands.filter fun s => !decide (s ∈ seen)) = s :: r ∧ s ∉ seen ∧ NmOk 8 s := by
  cases e : cands.filter fun s => !decide (s ∈ seen) with
  | nil =>
    rw [List.filter_eq_nil_iff] at e
    have := nodup_len cands_nodup (ys := seen) fun x hx => by simpa using e x hx
    rw [cands_len] at this
    omega
  | cons s r =>
    have hm : s ∈ cands.filter fun s => !decide (s ∈ seen) := by rw [e]; exact List.mem_cons_self ..
    rw [List.mem_filter] at hm
    exact ⟨s, r, rfl, by simpa using hm.2, cands_ok s hm.1⟩
theorem last_at {seen : List Str} (h : seen ≠ []) : ∃ s ∈ seen, ixT (.lst (sL seen)) (.int (-1)) = some (.str s) := by
  have hl : 0 < seen.length := List.length_pos_iff.mpr h
  refine ⟨seen[seen.length - 1]'(by omega), List.getElem_mem _, ?_⟩
  show atI (sL seen) (-1) = _
  unfold atI ixN
  rw [List.length_map]
  rw [if_neg (by decide), if_pos (by omega), Option.bind_some, show ((-1 : Int) + (seen.length : Int)).toNat = seen.length - 1 by omega, List.getElem?_map, List.getElem?_eq_getElem (by omega)]
  rfl
theorem fm_filter {α : Type} (p : α → Bool) (f : α → T) : ∀ xs : List α, ((xs.map fun x => if p x then some (f x) else none).filterMap id) = (xs.filter p).map f
  | [] => rfl
  | x :: xs => by
    by_cases h : p x
    · simp [h, fm_filter p f xs]
    · simp [h, fm_filter p f xs]
def S__law_name (Φ : Ft) : Prop := ∃ r, Φ.fn "_law_name" = some ⟨[.io, .rd], r⟩ ∧ ∀ (ns : List Int) (ts : List T) (seen : List Str), PackOk ns ts → seen.length ≤ 20 → (∀ s ∈ seen, NmOk 8 s) →
  ∃ (us : List T) (s : Str), r [.io, .bor] [.lst ts, .lst (sL seen)] = .ok (.val (.str s)) [.lst us, .lst (sL seen)] ∧ PackOk ns us ∧ s ∉ seen ∧ NmOk 8 s
theorem p__law_name {Φ0 Φ : Ft} (h : Φ.fn "_law_name" = some (Df.fn Φ0 c__law_name)) (H1 : S__law_draw Φ0) : S__law_name Φ := by
  obtain ⟨r1, h1, q1⟩ := H1
  refine ⟨_, h, fun ns ts seen p hs hsl => ?_⟩
  suffices hx : ∃ o outs, runDf Φ0 c__law_name [.io, .bor] [.lst ts, .lst (sL seen)] = .ok o outs ∧ ∃ us s, o = .val (.str s) ∧ outs = [.lst us, .lst (sL seen)] ∧ PackOk ns us ∧ s ∉ seen ∧ NmOk 8 s by
    obtain ⟨_, _, h1, us, l, rfl, rfl, h2⟩ := hx; exact ⟨us, l, h1, h2⟩
  obtain ⟨u1, way, e1, p1, w0, w1⟩ := q1 ns ts 3 p (by decide) (by decide)
  have hc : signsT letters = (letters.cps.toList.map fun c => T.str ⟨#[c]⟩) := rfl
  have hl2 : letters.cps.toList.length = 26 := by decide +kernel
  have n0 : NmOk 7 (Str.ofString "") := ⟨by decide +kernel, by decide +kernel⟩
  -- behind the loop: the name as it is, or a fresh one
  have fin : ∀ (us : List T) (nm : Str), PackOk ns us → NmOk 8 nm → wSs Φ0 (c__law_name.body.drop 5) [iob us, some (.bor, .lst (sL seen)), vs letters, vs nm, vi way, none, none] (runQ [.io, .bor] [.lst ts, .lst (sL seen)] fun o outs => ∃ us s, o = .val (.str s) ∧ outs = [.lst us, .lst (sL seen)] ∧ PackOk ns us ∧ s ∉ seen ∧ NmOk 8 s) fun _ _ => False := by
    intro us nm hp hn
    have alt : wSs Φ0 ((match c__law_name.body.getD 5 .pass with | .iff _ a _ => a | _ => []) ++ c__law_name.body.drop 6) [iob us, some (.bor, .lst (sL seen)), vs letters, vs nm, vi way, none, none] (runQ [.io, .bor] [.lst ts, .lst (sL seen)] fun o outs => ∃ us s, o = .val (.str s) ∧ outs = [.lst us, .lst (sL seen)] ∧ PackOk ns us ∧ s ∉ seen ∧ NmOk 8 s) fun _ _ => False := by
      refine ⟨(signsT letters, []), rfl, ?_⟩
      refine lcf_rule (letters.cps.toList.map fun c => if !decide ((⟨#[c]⟩ : Str) ++ ring ∈ seen) then some (T.str ((⟨#[c]⟩ : Str) ++ ring)) else none) ⟨⟨by rw [hc, List.length_map, List.length_map], by rw [hc, List.length_map, hl2]; exact len_le (by decide)⟩, fun j t v e1 e2 => ?_, ?_⟩
      · rw [hc, List.getElem?_map] at e1
        obtain ⟨c, hcj, rfl⟩ := Option.map_eq_some_iff.mp e1
        rw [List.getElem?_map, hcj] at e2
        cases e2
        have hl5 : (⟨#[c]⟩ : Str).length + (Str.ofString "ring").length ≤ LIM := len_le (by show 1 + _ ≤ _; decide +kernel)
        refine ⟨hl5, _, notin_strs _ seen, fun z => ⟨hl5, (if_pos z).symm, rfl⟩, fun z => ⟨(if_neg (by rw [show (!decide ((⟨#[c]⟩ : Str) ++ ring ∈ seen)) = false from z]; decide)).symm, rfl⟩⟩
      · obtain ⟨s, r, hr, h1, h2⟩ := fresh hs
        have e : (letters.cps.toList.map fun c => if !decide ((⟨#[c]⟩ : Str) ++ ring ∈ seen) then some (T.str ((⟨#[c]⟩ : Str) ++ ring)) else none).filterMap id = sL (s :: r) := by
          rw [← hr]
          unfold cands
          rw [fm_filter (fun c => !decide ((⟨#[c]⟩ : Str) ++ ring ∈ seen)) (fun c => T.str ((⟨#[c]⟩ : Str) ++ ring)) letters.cps.toList, List.filter_map]
          show _ = List.map T.str (List.map _ _)
          rw [List.map_map]
          rfl
        rw [e]
        exact ⟨.str s, atI_nat (by decide) rfl, _, rfl, us, s, rfl, rfl, hp, h1, h2⟩
    refine ⟨_, in_strs nm seen, fun _ => alt, fun z => ⟨_, rfl, fun _ => alt, fun _ => ?_⟩⟩
    exact ⟨_, rfl, us, nm, rfl, rfl, hp, by simpa using z, hn⟩
  -- the loop
  have loop : ∀ nm : Str, NmOk 7 nm → wSs Φ0 (c__law_name.body.drop 4) [iob u1, some (.bor, .lst (sL seen)), vs letters, vs nm, vi way, none, none] (runQ [.io, .bor] [.lst ts, .lst (sL seen)] fun o outs => ∃ us s, o = .val (.str s) ∧ outs = [.lst us, .lst (sL seen)] ∧ PackOk ns us ∧ s ∉ seen ∧ NmOk 8 s) fun _ _ => False := by
    intro nm hn
    have hn1 := hn.1
    obtain ⟨u2, d, e2, p2, d0, d1⟩ := q1 ns u1 (8 - nm.length) p1 (by omega) (by omega)
    refine ⟨_, h1, ⟨.val (.int nm.length), if_pos (len_le (by omega)), ?_⟩⟩
    refine ⟨_, e2, okR_of (by omega) (by omega), ?_⟩
    refine for_rule (fun j e => ∃ us s, e = [iob us, some (.bor, .lst (sL seen)), vs letters, vs s, vi way, none, none] ∧ PackOk ns us ∧ NmOk (nm.length + j) s) ⟨u2, nm, rfl, p2, Nat.le_refl _, hn.2⟩ ?_ ?_
    · rintro j t e ht ⟨us, s, rfl, hp, hl⟩
      obtain ⟨rfl, hj⟩ := range_at ht
      obtain ⟨u3, d', e3, p3, d2, d3⟩ := q1 ns us 26 hp (by decide) (by decide)
      obtain ⟨c, hc, hco⟩ := letter d2 d3
      have hl2 := hl.app hco
      refine ⟨_, h1, _, e3, _, hc, Nat.le_trans (Nat.add_le_add hl.1 hco.1) (len_le (by omega)), ?_⟩
      refine ⟨fun _ => ?_, fun _ => ⟨_, _, rfl, p3, hl2⟩⟩
      exact fin u3 _ p3 (hl2.mono (by omega))
    · rintro e ⟨us, s, rfl, hp, hl⟩
      exact fin us s hp (hl.mono (by simp [rangeT]; omega))
  refine run_ex ⟨rfl, rfl⟩ ⟨_, h1, _, e1, fun hw => ?_, fun _ => loop _ n0⟩
  refine ⟨_, cmp_strs hsl, fun z => ?_, fun _ => loop _ n0⟩
  have hne : seen ≠ [] := by simpa using z
  obtain ⟨s, hsm, es⟩ := last_at hne
  have so := hsl s hsm
  refine ⟨_, es, okm_l (by decide), ⟨.val (.str ⟨(cutT s.cps.toList none (some (7 - 3 * (way - 1)))).toArray⟩), if_pos (Nat.le_trans so.1 (len_le (by decide))), ?_⟩⟩
  exact loop _ (NmOk.cut so.2 (by omega) (by omega))
end VL

set_option maxHeartbeats 4000000
namespace VL
open PySem PySem.Spec PyProof.Rows L2
/-- bells of a choir of n: each a bell; the names, none twice; where none may wait, a listening of the same stroke is to a bell ahead -/
structure ChOk (n : Nat) (z : Bool) (bs : List Be) : Prop where
  ok : ∀ b ∈ bs, b.Ok n
  nd : (bs.map Be.nm).Nodup
  nm : ∀ b ∈ bs, NmOk 8 b.nm
  wt : z = false → ∀ (i : Nat) (b : Be), bs[i]? = some b → ∀ l ∈ b.ls, i ≤ l.w → l.k = true
abbrev chT (bs : List Be) : T := .tup (bs.map Be.t)
theorem ChOk.nil {n : Nat} {z : Bool} : ChOk n z [] := ⟨nofun, List.nodup_nil, nofun, fun _ i b e => by simp at e⟩
theorem ChOk.snoc {n : Nat} {z : Bool} {bs : List Be} {b : Be} (h : ChOk n z bs) (hb : b.Ok n) (hn : b.nm ∉ bs.map Be.nm) (hm : NmOk 8 b.nm) (hw : z = false → ∀ l ∈ b.ls, bs.length ≤ l.w → l.k = true) : ChOk n z (bs ++ [b]) := by
  refine ⟨fun x hx => ?_, ?_, fun x hx => ?_, fun e i x ei l hl hi => ?_⟩
  · rcases List.mem_append.mp hx with q | q
    · exact h.ok x q
    · rw [List.mem_singleton.mp q]; exact hb
  · rw [List.map_append, List.nodup_append]
    refine ⟨h.nd, by simp, fun x hx y hy => ?_⟩
    have : y = b.nm := by simpa using hy
    subst this
    exact fun e => hn (e ▸ hx)
  · rcases List.mem_append.mp hx with q | q
    · exact h.nm x q
    · rw [List.mem_singleton.mp q]; exact hm
  · rw [List.getElem?_append] at ei
    split at ei
    · exact h.wt e i x ei l hl hi
    · have hi0 : i = bs.length := by
        have := (List.getElem?_eq_some_iff.mp ei).1
        simp at this
        omega
      subst hi0
      simp at ei
      subst ei
      exact hw e l hl hi
def S__law_choir_k21 (Φ : Ft) : Prop := ∃ r, Φ.fn "_law_choir" = some ⟨[.io, .rd, .rd], r⟩ ∧ ∀ (ns : List Int) (ts : List T) (m : Int) (z : Bool), PackOk ns ts → 1 ≤ m → m ≤ 6 →
  ∃ (us : List T) (bs : List Be), r [.io, .sh, .sh] [.lst ts, .int m, .bl z] = .ok (.val (chT bs)) [.lst us, .int m, .bl z] ∧ PackOk ns us ∧ 1 ≤ bs.length ∧ (bs.length : Int) ≤ m ∧ ChOk bs.length z bs
theorem three {j : Int} (h0 : 0 ≤ j) (h1 : j < 3) : ∃ v : Int, ixT (.lst [.int 6, .int 40, .int 1001]) (.int j) = some (.int v) ∧ 6 ≤ v ∧ v ≤ 1001 := by
  have : j = 0 ∨ j = 1 ∨ j = 2 := by omega
  rcases this with rfl | rfl | rfl
  · exact ⟨6, rfl, by decide, by decide⟩
  · exact ⟨40, rfl, by decide, by decide⟩
  · exact ⟨1001, rfl, by decide, by decide⟩
theorem two {j : Int} (h0 : 0 ≤ j) (h1 : j < 2) : ∃ v : Int, ixT (.lst [.int 3, .int 6]) (.int j) = some (.int v) ∧ 3 ≤ v ∧ v ≤ 6 := by
  have : j = 0 ∨ j = 1 := by omega
  rcases this with rfl | rfl
  · exact ⟨3, rfl, by decide, by decide⟩
  · exact ⟨6, rfl, by decide, by decide⟩
theorem p__law_choir_k21 {Φ0 Φ : Ft} (h : Φ.fn "_law_choir" = some (Df.fn Φ0 c__law_choir_k21)) (H1 : S__law_draw Φ0) (H2 : S__law_next Φ0) (H3 : S__law_name Φ0) (H4 : S__law_rule_k21 Φ0) (H5 : S__law_listening Φ0) : S__law_choir_k21 Φ := by
  obtain ⟨r1, h1, q1⟩ := H1
  obtain ⟨r2, h2, q2⟩ := H2
  obtain ⟨r3, h3, q3⟩ := H3
  obtain ⟨r4, h4, q4⟩ := H4
  obtain ⟨r5, h5, q5⟩ := H5
  refine ⟨_, h, fun ns ts m z p hm hm2 => ?_⟩
  suffices hx : ∃ o outs, runDf Φ0 c__law_choir_k21 [.io, .sh, .sh] [.lst ts, .int m, .bl z] = .ok o outs ∧ ∃ us bs, o = .val (chT bs) ∧ outs = [.lst us, .int m, .bl z] ∧ PackOk ns us ∧ 1 ≤ bs.length ∧ (bs.length : Int) ≤ m ∧ ChOk bs.length z bs by
    obtain ⟨_, _, h1, us, l, rfl, rfl, h2⟩ := hx; exact ⟨us, l, h1, h2⟩
  obtain ⟨u1, n, e1, p1, n0, n1⟩ := q1 ns ts m p (by omega) (by omega)
  obtain ⟨n, rfl⟩ := Int.eq_ofNat_of_zero_le n0
  obtain ⟨u2, st, e2, p2, s0, s1⟩ := q1 ns u1 4 p1 (by decide) (by decide)
  refine run_ex ⟨rfl, rfl⟩ ⟨_, h1, _, e1, _, h1, _, e2, okR_of (by omega) (by omega), ?_⟩
  refine for_rule (fun i e => ∃ (us : List T) (bs : List Be), e = [iob us, vi m, some (.sh, .bl z), vi (1 + n), vi st, oL (sL (bs.map Be.nm)), oL (bs.map Be.t), none, none, none, none, none] ∧ PackOk ns us ∧ bs.length = i ∧ ChOk (n + 1) z bs)
    ⟨u2, [], rfl, p2, rfl, .nil⟩ ?_ ?_
  · rintro i t e ht ⟨us, bs, rfl, hp, hbl, hch⟩
    obtain ⟨rfl, hi⟩ := range_at ht
    obtain ⟨v1, e3, p3⟩ := q2 ns us hp
    obtain ⟨v2, nm, e4, p4, hnm, hno⟩ := q3 ns v1 (bs.map Be.nm) p3 (by simp; omega) (by simpa using fun b hb => hch.nm b hb)
    obtain ⟨v3, j3, e5, p5, j30, j31⟩ := q1 ns v2 3 p4 (by decide) (by decide)
    obtain ⟨x3, hx3, x30, x31⟩ := three j30 j31
    obtain ⟨v4, start, e6, p6, st0, st1⟩ := q1 ns v3 x3 p5 (by omega) (by omega)
    obtain ⟨v5, j5, e7, p7, j50, j51⟩ := q1 ns v4 2 p6 (by decide) (by decide)
    obtain ⟨x5, hx5, x50, x51⟩ := two j50 j51
    obtain ⟨v6, cn, e8, p8, cn0, cn1⟩ := q1 ns v5 x5 p7 (by omega) (by omega)
    obtain ⟨cn, rfl⟩ := Int.eq_ofNat_of_zero_le cn0
    obtain ⟨v7, u, e9, p9, hu⟩ := q4 ns v6 st (1 + cn) p8 (by omega) (by omega)
    have hll : (sL (bs.map Be.nm)).length < LIM := len_lt (by simp; omega)
    refine ⟨_, h2, _, e3, _, h3, _, e4, hll, _, h1, _, h1, _, e5, _, hx3, _, e6, _, h1, _, h1, _, e7, _, hx5, _, e8, _, h4, _, e9, ?_⟩
    have en : ixT (.lst (sL (bs.map Be.nm) ++ [.str nm])) (.int (0 + i)) = some (.str nm) := by
      refine atI_nat (by omega) ?_
      rw [show (0 + (i : Int)).toNat = i by omega, List.getElem?_append_right (by simp; omega)]
      simp [hbl]
    refine ⟨_, en, okR_of (by omega) (by omega), ?_⟩
    refine lcp_rule (fun j acc e => ∃ (us : List T) (ls : List Li), e = [iob us, vi m, some (.sh, .bl z), vi (1 + n), vi st, oL (sL (bs.map Be.nm) ++ [.str nm]), oL (bs.map Be.t), vi (0 + i), vi start, vi (1 + cn), some (.sh, u.t), none] ∧ PackOk ns us ∧ acc = ls.map Li.t ∧ ∀ l ∈ ls, l.Ok (n + 1) ∧ (z = false → i ≤ l.w → l.k = true))
      ⟨len_le (by simp [rangeT]; omega), v7, [], rfl, p9, rfl, nofun⟩ ?_ ?_
    · rintro j t acc e hj ha ⟨us, ls, rfl, hp, rfl, hls⟩
      obtain ⟨w1, l, f1, f2, f3, f4⟩ := q5 ns us i (n + 1) z hp (by omega) (by omega)
      rw [show ((n + 1 : Nat) : Int) = 1 + n by omega, show (i : Int) = 0 + i by omega] at f1
      refine ⟨_, h5, _, f1, w1, ls ++ [l], rfl, f2, by rw [List.map_append]; rfl, fun x hx => ?_⟩
      rcases List.mem_append.mp hx with q | q
      · exact hls x q
      · rw [List.mem_singleton.mp q]; exact ⟨f3, f4⟩
    · rintro acc e hla ⟨us, ls, rfl, hp, rfl, hls⟩
      have hl2 : ls.length = 1 + cn := by
        simp [rangeT] at hla
        omega
      have hb : Be.Ok (n + 1) ⟨nm, start, u, ls⟩ := ⟨⟨st0, by show start ≤ 1000; omega⟩, ⟨by show 1 ≤ ls.length; omega, by show ls.length ≤ 6; omega⟩, by show u.Ok (ls.length : Int); rw [hl2]; exact_mod_cast hu, fun l hl => (hls l hl).1⟩
      refine ⟨len_lt (by simp; omega), us, bs ++ [⟨nm, start, u, ls⟩], ?_, hp, by simp [hbl], hch.snoc hb hnm hno fun e l hl hi => (hls l hl).2 e (by rw [← hbl]; exact hi)⟩
      have z1 : sL (bs.map Be.nm) ++ [.str nm] = sL ((bs ++ [(⟨nm, start, u, ls⟩ : Be)]).map Be.nm) := by
        show (bs.map Be.nm).map T.str ++ [T.str nm] = ((bs ++ [(⟨nm, start, u, ls⟩ : Be)]).map Be.nm).map T.str
        simp
      have z2 : bs.map Be.t ++ [Be.t ⟨nm, start, u, ls⟩] = (bs ++ [(⟨nm, start, u, ls⟩ : Be)]).map Be.t := by rw [List.map_append]; rfl
      rw [← z1, ← z2]
      rfl
  · rintro e ⟨us, bs, rfl, hp, hbl, hch⟩
    have hbl : bs.length = n + 1 := by
      rw [hbl]
      simp [rangeT]
      omega
    exact ⟨_, rfl, us, bs, rfl, rfl, hp, by omega, by omega, by rw [hbl]; exact hch⟩
end VL

set_option maxHeartbeats 4000000
namespace VL
open PySem PySem.Spec PyProof.Rows L2
/-! ### strokes -/
def comeL (ls : List Li) (ah he : List (Option Int)) : List (Option Int) := ls.map fun l => (if l.k then ah.getD l.w none else he.getD l.w none).map (· + l.b)
theorem btT_snoc (bs : List (Option Int)) (b : Option Int) : btT bs ++ [optT b] = btT (bs ++ [b]) := by
  show bs.map optT ++ [b].map optT = _
  rw [← List.map_append]
theorem btT_at {bs : List (Option Int)} {k : Nat} (h : k < bs.length) : ixT (.lst (btT bs)) (.int k) = some (optT (bs.getD k none)) :=
  atI_nat (by omega) (by rw [List.getElem?_map, List.getD_eq_getElem?_getD, show (k : Int).toNat = k by omega, List.getElem?_eq_getElem h]; rfl)
def S_comings (Φ : Ft) : Prop := ∃ r, Φ.fn "comings" = some ⟨[.rd, .rd, .rd], r⟩ ∧ ∀ (b : Be) (n : Nat) (ah he : List (Option Int)) (m m' : Md), b.Ok n → ah.length = n → he.length = n → m ≠ .io → m' ≠ .io →
  r [.sh, m, m'] [b.t, .lst (btT ah), .lst (btT he)] = .ok (.own (.lst (btT (comeL b.ls ah he)))) [b.t, .lst (btT ah), .lst (btT he)]
theorem p_comings {Φ0 Φ : Ft} (h : Φ.fn "comings" = some (Df.fn Φ0 c_comings)) : S_comings Φ := by
  refine ⟨_, h, fun b n ah he m m' hb ha hh hm hm' => run_rule ⟨rfl, rfl⟩ ?_⟩
  have go : ∀ (m m' : Md), m = .sh ∨ m = .bor → m' = .sh ∨ m' = .bor → wSs Φ0 c_comings.body (env0 8 [.sh, m, m'] [b.t, .lst (btT ah), .lst (btT he)]) (runK [.sh, m, m'] [b.t, .lst (btT ah), .lst (btT he)] (.ok (.own (.lst (btT (comeL b.ls ah he)))) [b.t, .lst (btT ah), .lst (btT he)])) (runX [.sh, m, m'] [b.t, .lst (btT ah), .lst (btT he)] (.ok (.own (.lst (btT (comeL b.ls ah he)))) [b.t, .lst (btT ah), .lst (btT he)])) := by
    intro m m' em em'
    refine ⟨_, rfl, ⟨(b.ls.map Li.t, []), rfl, ?_⟩⟩
    refine for_rule (fun j e => e = [some (.sh, b.t), some (m.fl, .lst (btT ah)), some (m'.fl, .lst (btT he)), oL (btT (comeL (b.ls.take j) ah he)), none, none, none, none]) rfl ?_ ?_
    · rintro j t e ht rfl
      rw [List.getElem?_map] at ht
      obtain ⟨l, hl, rfl⟩ := Option.map_eq_some_iff.mp ht
      obtain ⟨lw, lb0, lb1⟩ := hb.ls l (List.mem_of_getElem? hl)
      have hj : j < b.ls.length := (List.getElem?_eq_some_iff.mp hl).1
      have hnext : comeL (b.ls.take (j + 1)) ah he = comeL (b.ls.take j) ah he ++ [(if l.k then ah.getD l.w none else he.getD l.w none).map (· + l.b)] := by
        unfold comeL
        rw [List.take_add_one, hl, List.map_append]
        rfl
      have hll : (btT (comeL (b.ls.take j) ah he)).length < LIM := by
        have := hb.len.2
        exact len_lt (by simp [comeL]; omega)
      obtain ⟨w, lb, lk⟩ := l
      have fin : ∀ v : Option Int, comeL (b.ls.take (j + 1)) ah he = comeL (b.ls.take j) ah he ++ [v.map (· + lb)] → ([some (.sh, b.t), some (m.fl, .lst (btT ah)), some (m'.fl, .lst (btT he)), oL (btT (comeL (b.ls.take j) ah he) ++ [optT (v.map (· + lb))]), none, none, none, none] : En) = [some (.sh, b.t), some (m.fl, .lst (btT ah)), some (m'.fl, .lst (btT he)), oL (btT (comeL (b.ls.take (j + 1)) ah he)), none, none, none, none] := fun v e => by rw [e, btT_snoc]
      refine ⟨rfl, _, btT_at (by rw [hh]; exact lw), ?_⟩
      cases lk with
      | true =>
        refine ⟨fun _ => ⟨_, btT_at (by rw [ha]; exact lw), ?_⟩, fun z => absurd rfl z⟩
        have hnext : comeL (b.ls.take (j + 1)) ah he = comeL (b.ls.take j) ah he ++ [(ah.getD w none).map (· + lb)] := hnext
        generalize ah.getD w none = v at hnext
        cases v with
        | none => exact ⟨hll, fin none hnext⟩
        | some x => exact ⟨hll, fin (some x) hnext⟩
      | false =>
        refine ⟨fun z => absurd (show (0 : Int) = 1 from z) (by decide), fun _ => ?_⟩
        have hnext : comeL (b.ls.take (j + 1)) ah he = comeL (b.ls.take j) ah he ++ [(he.getD w none).map (· + lb)] := hnext
        generalize he.getD w none = v at hnext
        cases v with
        | none => exact ⟨hll, fin none hnext⟩
        | some x => exact ⟨hll, fin (some x) hnext⟩
    · rintro e rfl
      rw [List.length_map, List.take_length]
      rcases em with rfl | rfl <;> rcases em' with rfl | rfl <;> exact ⟨_, rfl, rfl⟩
  have mm : ∀ m : Md, m ≠ .io → m = .sh ∨ m = .bor := fun m hm => by cases m <;> first | exact .inl rfl | exact .inr rfl | exact absurd rfl hm
  exact go m m' (mm m hm) (mm m' hm')
/-- when a bell is due, as things stand -/
def candL (b : Be) (ah he : List (Option Int)) : Option Int := fallsL (b.u.wants b.ls.length) (comeL b.ls ah he)
def bestT : Option (Int × Nat) → T
  | none => .non
  | some (x, k) => .tup [.int x, .int k]
/-- o is the least of the first j bells that are due -/
def Least (bs : List Be) (ah he : List (Option Int)) (j : Nat) : Option (Int × Nat) → Prop
  | none => ∀ (k : Nat) (b : Be), k < j → bs[k]? = some b → he.getD k none = none → candL b ah he = none
  | some (x, k) => k < j ∧ (∃ b, bs[k]? = some b ∧ he.getD k none = none ∧ candL b ah he = some x) ∧ ∀ (i : Nat) (b : Be) (y : Int), i < j → bs[i]? = some b → he.getD i none = none → candL b ah he = some y → x ≤ y
theorem Least.skip {bs : List Be} {ah he : List (Option Int)} {j : Nat} {o : Option (Int × Nat)} {b : Be} (h : Least bs ah he j o) (hb : bs[j]? = some b) (hn : he.getD j none = none → candL b ah he = none) : Least bs ah he (j + 1) o := by
  cases o with
  | none =>
    intro k c hk hc hh
    rcases Nat.lt_or_eq_of_le (Nat.le_of_lt_succ hk) with q | q
    · exact h k c q hc hh
    · subst q
      rw [hb] at hc
      cases hc
      exact hn hh
  | some p =>
    obtain ⟨x, k⟩ := p
    obtain ⟨h1, h2, h3⟩ := h
    refine ⟨by omega, h2, fun i c y hi hc hh hy => ?_⟩
    rcases Nat.lt_or_eq_of_le (Nat.le_of_lt_succ hi) with q | q
    · exact h3 i c y q hc hh hy
    · subst q
      rw [hb] at hc
      cases hc
      rw [hn hh] at hy
      cases hy
theorem Least.take {bs : List Be} {ah he : List (Option Int)} {j : Nat} {o : Option (Int × Nat)} {b : Be} {y : Int} (h : Least bs ah he j o) (hb : bs[j]? = some b) (hn : he.getD j none = none) (hy : candL b ah he = some y) (ho : ∀ x k, o = some (x, k) → y < x) : Least bs ah he (j + 1) (some (y, j)) := by
  refine ⟨by omega, ⟨b, hb, hn, hy⟩, fun i c z hi hc hh hz => ?_⟩
  rcases Nat.lt_or_eq_of_le (Nat.le_of_lt_succ hi) with q | q
  · cases o with
    | none =>
      have := h i c q hc hh
      rw [this] at hz
      cases hz
    | some p =>
      obtain ⟨x, k⟩ := p
      have h1 := h.2.2 i c z q hc hh hz
      have h2 := ho x k rfl
      omega
  · subst q
    rw [hb] at hc
    cases hc
    rw [hy] at hz
    cases hz
    exact Int.le_refl _
theorem Least.keep {bs : List Be} {ah he : List (Option Int)} {j : Nat} {b : Be} {x y : Int} {k : Nat} (h : Least bs ah he j (some (x, k))) (hb : bs[j]? = some b) (hy : candL b ah he = some y) (hle : x ≤ y) : Least bs ah he (j + 1) (some (x, k)) := by
  obtain ⟨h1, h2, h3⟩ := h
  refine ⟨by omega, h2, fun i c z hi hc hh hz => ?_⟩
  rcases Nat.lt_or_eq_of_le (Nat.le_of_lt_succ hi) with q | q
  · exact h3 i c z q hc hh hz
  · subst q
    rw [hb] at hc
    cases hc
    rw [hy] at hz
    cases hz
    exact hle
def S_least_to_come (Φ : Ft) : Prop := ∃ r, Φ.fn "least_to_come" = some ⟨[.rd, .rd, .rd], r⟩ ∧ ∀ (bs : List Be) (ah he : List (Option Int)) (m m' : Md), (∀ b ∈ bs, b.Ok bs.length) → bs.length ≤ 1000 → ah.length = bs.length → he.length = bs.length → m ≠ .io → m' ≠ .io →
  ∃ o, r [.sh, m, m'] [chT bs, .lst (btT ah), .lst (btT he)] = .ok (.val (bestT o)) [chT bs, .lst (btT ah), .lst (btT he)] ∧ Least bs ah he bs.length o
theorem p_least_to_come {Φ0 Φ : Ft} (h : Φ.fn "least_to_come" = some (Df.fn Φ0 c_least_to_come)) (H1 : S_rule_of Φ0) (H2 : S_comings Φ0) (H3 : S_falls Φ0) : S_least_to_come Φ := by
  obtain ⟨r1, h1, q1, _⟩ := H1
  obtain ⟨r2, h2, q2⟩ := H2
  refine ⟨_, h, fun bs ah he m m' hb hl ha hh hm hm' => ?_⟩
  suffices hx : ∃ o outs, runDf Φ0 c_least_to_come [.sh, m, m'] [chT bs, .lst (btT ah), .lst (btT he)] = .ok o outs ∧ ∃ p, o = .val (bestT p) ∧ outs = [chT bs, .lst (btT ah), .lst (btT he)] ∧ Least bs ah he bs.length p by
    obtain ⟨_, _, h1, us, rfl, rfl, h2⟩ := hx; exact ⟨us, h1, h2⟩
  have go : ∀ (m m' : Md), m = .sh ∨ m = .bor → m' = .sh ∨ m' = .bor → wSs Φ0 c_least_to_come.body (env0 7 [.sh, m, m'] [chT bs, .lst (btT ah), .lst (btT he)]) (runQ [.sh, m, m'] [chT bs, .lst (btT ah), .lst (btT he)] fun o outs => ∃ p, o = .val (bestT p) ∧ outs = [chT bs, .lst (btT ah), .lst (btT he)] ∧ Least bs ah he bs.length p) fun _ _ => False := by
    intro m m' em em'
    refine ⟨rfl, _, rfl, ?_⟩
    refine for_rule (fun j e => ∃ p, e = [some (.sh, chT bs), some (m.fl, .lst (btT ah)), some (m'.fl, .lst (btT he)), some (.sh, bestT p), none, none, none] ∧ Least bs ah he j p) ⟨none, rfl, fun k b hk => absurd hk (Nat.not_lt_zero _)⟩ ?_ ?_
    · rintro j t e ht ⟨p, rfl, hp⟩
      obtain ⟨t, ht2, rfl⟩ := enumT_get ht
      have ht2 : (bs.map Be.t)[j]? = some t := ht2
      rw [List.getElem?_map] at ht2
      obtain ⟨b, hbj, rfl⟩ := Option.map_eq_some_iff.mp ht2
      have bo := hb b (List.mem_of_getElem? hbj)
      have hj : j < bs.length := (List.getElem?_eq_some_iff.mp hbj).1
      refine ⟨rfl, _, btT_at (by rw [hh]; exact hj), ?_⟩
      cases hv : he.getD j none with
      | some v => exact ⟨p, rfl, hp.skip hbj fun z => by rw [hv] at z; cases z⟩
      | none =>
        obtain ⟨r3, h3, q3⟩ := H3 b.u
        have hN : (((b.ls.map Li.t).length : Nat) : Int) = b.ls.length := by rw [List.length_map]
        have e1 := q1 b.u (b.ls.map Li.t).length (by rw [hN]; exact bo.u)
        have e3 := q3 (b.ls.map Li.t).length (comeL b.ls ah he) .sh nofun (by unfold comeL; rw [List.length_map, List.length_map]) (by have := bo.len.1; omega) (by have := bo.len.2; omega) (by rw [hN]; exact bo.u)
        have e4 : fallsL (b.u.wants (b.ls.map Li.t).length) (comeL b.ls ah he) = candL b ah he := by rw [hN]; rfl
        rw [e4] at e3
        rcases em with rfl | rfl <;> rcases em' with rfl | rfl
        all_goals
          refine ⟨_, h1, _, rfl, _, rfl, _, e1, _, h3, (look_none _ _).2, _, h2, _, q2 b bs.length ah he _ _ bo ha hh nofun nofun, _, e3, ?_⟩
          cases hc : candL b ah he with
          | none => exact ⟨p, rfl, hp.skip hbj fun _ => hc⟩
          | some y =>
            cases p with
            | none => exact ⟨some (y, j), rfl, hp.take hbj hv hc nofun⟩
            | some q =>
              obtain ⟨x, k⟩ := q
              refine ⟨_, rfl, fun z => ⟨some (y, j), rfl, hp.take hbj hv hc fun x' k' z' => ?_⟩, fun z => ⟨some (x, k), rfl, hp.keep hbj hc (by omega)⟩⟩
              cases z'
              exact z
    · rintro e ⟨p, rfl, hp⟩
      rw [show (enumT (bs.map Be.t), ([] : List Nat)).1.length = bs.length by simp [enumT]] at hp
      rcases em with rfl | rfl <;> rcases em' with rfl | rfl <;> exact ⟨_, rfl, p, rfl, rfl, hp⟩
  have mm : ∀ m : Md, m ≠ .io → m = .sh ∨ m = .bor := fun m hm => by cases m <;> first | exact .inl rfl | exact .inr rfl | exact absurd rfl hm
  rcases mm m hm with rfl | rfl <;> rcases mm m' hm' with rfl | rfl
  · exact run_ex ⟨rfl, rfl⟩ (go .sh .sh (.inl rfl) (.inl rfl))
  · exact run_ex ⟨rfl, rfl⟩ (go .sh .bor (.inl rfl) (.inr rfl))
  · exact run_ex ⟨rfl, rfl⟩ (go .bor .sh (.inr rfl) (.inl rfl))
  · exact run_ex ⟨rfl, rfl⟩ (go .bor .bor (.inr rfl) (.inr rfl))
end VL

set_option maxHeartbeats 4000000
namespace VL
open PySem PySem.Spec PyProof.Rows L2
/-! ### the least beat by which so many have come, another way -/
def cntLe (xs : List Int) (b : Int) : Nat := (xs.filter fun o => decide (o ≤ b)).length
theorem cnt_perm {xs ys : List Int} (p : xs.Perm ys) (b : Int) : cntLe xs b = cntLe ys b := (p.filter _).length_eq
/-- in a sorted row: the item at i has i + 1 items up to it; an item with so many up to it is at least that item -/
theorem cnt_ge {xs : List Int} (h : xs.Pairwise (· ≤ ·)) {i : Nat} (hi : i < xs.length) : i + 1 ≤ cntLe xs xs[i] := by
  unfold cntLe
  have h1 : (xs.take (i + 1)).filter (fun o => decide (o ≤ xs[i])) = xs.take (i + 1) := by
    rw [List.filter_eq_self]
    intro a ha
    obtain ⟨j, hj, rfl⟩ := List.getElem_of_mem ha
    rw [List.getElem_take]
    rw [List.length_take] at hj
    exact decide_eq_true (sorted_get h (by omega) hi)
  have h2 : ((xs.take (i + 1)).filter (fun o => decide (o ≤ xs[i]))).length ≤ (xs.filter (fun o => decide (o ≤ xs[i]))).length :=
    ((List.take_sublist (i + 1) xs).filter _).length_le
  rw [h1, List.length_take] at h2
  omega
theorem cnt_lt {xs : List Int} (h : xs.Pairwise (· ≤ ·)) {i : Nat} (hi : i < xs.length) {b : Int} (hb : b < xs[i]) : cntLe xs b ≤ i := by
  unfold cntLe
  have e : xs = xs.take i ++ xs.drop i := (List.take_append_drop i xs).symm
  have h2 : (xs.drop i).filter (fun o => decide (o ≤ b)) = [] := by
    rw [List.filter_eq_nil_iff]
    intro a ha
    obtain ⟨j, hj, rfl⟩ := List.getElem_of_mem ha
    rw [List.getElem_drop]
    rw [List.length_drop] at hj
    have := sorted_get h (show i ≤ i + j by omega) (show i + j < xs.length by omega)
    simp
    omega
  conv => lhs; rw [e, List.filter_append, h2, List.append_nil]
  exact Nat.le_trans (List.length_filter_le _ _) (by rw [List.length_take]; omega)
theorem minI_some {xs : List Int} (h : 0 < xs.length) : ∃ m, minI xs = some m := by
  cases xs with
  | nil => cases h
  | cons x xs => exact ⟨_, rfl⟩
/-- what _law_due tells -/
def dueL (w : Int) (bs : List (Option Int)) : Option Int := minI ((bs.filterMap id).filter fun b => decide (w ≤ (cntLe (bs.filterMap id) b : Int)))
theorem due_falls {w : Int} (hw : 1 ≤ w) (bs : List (Option Int)) : dueL w bs = fallsL w bs := by
  unfold dueL fallsL
  generalize bs.filterMap id = xs
  have hs := sortI_sorted xs
  have hp := sortI_perm xs
  by_cases hl : (w - 1).toNat < (sortI xs).length
  · rw [List.getElem?_eq_getElem hl]
    have he : (sortI xs)[(w - 1).toNat] ∈ xs.filter fun b => decide (w ≤ (cntLe xs b : Int)) := by
      rw [List.mem_filter]
      refine ⟨hp.mem_iff.mp (List.getElem_mem hl), decide_eq_true ?_⟩
      have := cnt_ge hs hl
      rw [cnt_perm hp] at this
      omega
    obtain ⟨m, hm⟩ := minI_some (xs := xs.filter fun b => decide (w ≤ (cntLe xs b : Int))) (List.length_pos_of_mem he)
    rw [hm]
    congr 1
    refine ((minI_is hm).2 _ he fun y hy => ?_).symm
    rw [List.mem_filter] at hy
    by_cases hc : (sortI xs)[(w - 1).toNat] ≤ y
    · exact hc
    · have := cnt_lt hs hl (b := y) (by omega)
      rw [cnt_perm hp] at this
      have h2 := of_decide_eq_true hy.2
      omega
  · rw [List.getElem?_eq_none (by omega)]
    have : xs.filter (fun b => decide (w ≤ (cntLe xs b : Int))) = [] := by
      rw [List.filter_eq_nil_iff]
      intro b hb
      have h1 : cntLe xs b ≤ xs.length := List.length_filter_le _ _
      rw [sortI_len] at hl
      simp
      omega
    rw [this]
    rfl
theorem minI_spec {xs : List Int} {m : Int} (h : minI xs = some m) : m ∈ xs ∧ ∀ y ∈ xs, m ≤ y := by
  obtain ⟨h1, h2⟩ := minI_is h
  have hl : 0 < (sortI xs).length := by rw [sortI_len]; exact h1
  have hm : (sortI xs)[0] ∈ xs := (sortI_perm xs).mem_iff.mp (List.getElem_mem hl)
  have hle : ∀ y ∈ xs, (sortI xs)[0] ≤ y := fun y hy => by
    have hy' := (sortI_perm xs).mem_iff.mpr hy
    obtain ⟨i, hi, rfl⟩ := List.getElem_of_mem hy'
    exact sorted_get (sortI_sorted xs) (Nat.zero_le _) hi
  have := h2 _ hm hle
  subst this
  exact ⟨hm, hle⟩
theorem minI_mem {xs : List Int} {m : Int} (h : minI xs = some m) : m ∈ xs := (minI_spec h).1
theorem minI_le {xs : List Int} {m : Int} (h : minI xs = some m) : ∀ y ∈ xs, m ≤ y := (minI_spec h).2
theorem falls_is {w : Int} (hw : 1 ≤ w) {bs : List (Option Int)} {v : Int} : fallsL w bs = some v ↔ v ∈ bs.filterMap id ∧ w ≤ (cntLe (bs.filterMap id) v : Int) ∧ ∀ u ∈ bs.filterMap id, u < v → (cntLe (bs.filterMap id) u : Int) < w := by
  rw [← due_falls hw]
  unfold dueL
  generalize bs.filterMap id = xs
  constructor
  · intro h
    have hm : v ∈ xs.filter fun b => decide (w ≤ (cntLe xs b : Int)) := minI_mem h
    rw [List.mem_filter] at hm
    refine ⟨hm.1, of_decide_eq_true hm.2, fun u hu hlt => ?_⟩
    by_cases hc : w ≤ (cntLe xs u : Int)
    · have := minI_le h u (List.mem_filter.mpr ⟨hu, decide_eq_true hc⟩)
      omega
    · omega
  · rintro ⟨h1, h2, h3⟩
    have he : v ∈ xs.filter fun b => decide (w ≤ (cntLe xs b : Int)) := List.mem_filter.mpr ⟨h1, decide_eq_true h2⟩
    obtain ⟨m, hm⟩ := minI_some (xs := xs.filter fun b => decide (w ≤ (cntLe xs b : Int))) (List.length_pos_of_mem he)
    rw [hm]
    congr 1
    have a1 := minI_le hm v he
    have a2 : m ∈ xs.filter fun b => decide (w ≤ (cntLe xs b : Int)) := minI_mem hm
    rw [List.mem_filter] at a2
    by_cases hc : m < v
    · have := h3 m a2.1 hc
      have := of_decide_eq_true a2.2
      omega
    · omega
/-- alike up to x -/
def UpTo (x : Int) (ks ks' : List Int) : Prop := ∀ t, t ≤ x → (t ∈ ks ↔ t ∈ ks') ∧ cntLe ks t = cntLe ks' t
theorem UpTo.symm {x : Int} {ks ks' : List Int} (h : UpTo x ks ks') : UpTo x ks' ks := fun t ht => ⟨(h t ht).1.symm, (h t ht).2.symm⟩
theorem falls_upto1 {w : Int} (hw : 1 ≤ w) {bs bs' : List (Option Int)} {x v : Int} (h : UpTo x (bs.filterMap id) (bs'.filterMap id)) (hv : v ≤ x) (e : fallsL w bs = some v) : fallsL w bs' = some v := by
  rw [falls_is hw] at e ⊢
  obtain ⟨h1, h2, h3⟩ := e
  refine ⟨(h v hv).1.mp h1, by rw [← (h v hv).2]; exact h2, fun u hu hlt => ?_⟩
  rw [← (h u (by omega)).2]
  exact h3 u ((h u (by omega)).1.mpr hu) hlt
/-- a bell more has struck, at x: what comes of it comes behind x -/
theorem come_upto {ls : List Li} {n : Nat} (hl : ∀ l ∈ ls, l.Ok n) {ah he : List (Option Int)} {k : Nat} {x : Int} (hk : k < he.length) (h0 : he.getD k none = none) :
    UpTo x ((comeL ls ah he).filterMap id) ((comeL ls ah (he.set k (some x))).filterMap id) := by
  induction ls with
  | nil => exact fun t _ => ⟨Iff.rfl, rfl⟩
  | cons l ls ih =>
    have ih := ih fun l hl' => hl l (List.mem_cons_of_mem _ hl')
    obtain ⟨lw, lb0, lb1⟩ := hl l (List.mem_cons_self ..)
    have hc : ∀ h : List (Option Int), comeL (l :: ls) ah h = (if l.k then ah.getD l.w none else h.getD l.w none).map (· + l.b) :: comeL ls ah h := fun h => rfl
    rw [hc, hc]
    by_cases hq : l.k = false ∧ l.w = k
    · obtain ⟨q1, q2⟩ := hq
      have e1 : (if l.k then ah.getD l.w none else he.getD l.w none) = none := by rw [q1, q2]; exact h0
      have e2 : (if l.k then ah.getD l.w none else (he.set k (some x)).getD l.w none) = some x := by
        rw [q1, q2]
        simp [List.getD_eq_getElem?_getD, hk]
      rw [e1, e2]
      intro t ht
      obtain ⟨i1, i2⟩ := ih t ht
      have ht2 : ¬ (x + l.b ≤ t) := by omega
      refine ⟨?_, ?_⟩
      · show t ∈ (comeL ls ah he).filterMap id ↔ t ∈ (x + l.b) :: (comeL ls ah (he.set k (some x))).filterMap id
        rw [List.mem_cons, ← i1]
        constructor
        · exact .inr
        · rintro (z | z)
          · omega
          · exact z
      · show cntLe ((comeL ls ah he).filterMap id) t = cntLe ((x + l.b) :: (comeL ls ah (he.set k (some x))).filterMap id) t
        rw [i2]
        unfold cntLe
        rw [List.filter_cons, if_neg (by simpa using ht2)]
    · have e : (if l.k then ah.getD l.w none else (he.set k (some x)).getD l.w none) = (if l.k then ah.getD l.w none else he.getD l.w none) := by
        by_cases q1 : l.k
        · simp [q1]
        · have q2 : ¬ k = l.w := fun z => hq ⟨by simpa using q1, z.symm⟩
          simp [q1, List.getD_eq_getElem?_getD, List.getElem?_set, q2]
      rw [e]
      cases (if l.k then ah.getD l.w none else he.getD l.w none) with
      | none => exact ih
      | some v =>
        intro t ht
        obtain ⟨i1, i2⟩ := ih t ht
        refine ⟨?_, ?_⟩
        · show t ∈ (v + l.b) :: (comeL ls ah he).filterMap id ↔ t ∈ (v + l.b) :: (comeL ls ah (he.set k (some x))).filterMap id
          rw [List.mem_cons, List.mem_cons, i1]
        · show cntLe ((v + l.b) :: (comeL ls ah he).filterMap id) t = cntLe ((v + l.b) :: (comeL ls ah (he.set k (some x))).filterMap id) t
          unfold cntLe at i2 ⊢
          rw [List.filter_cons, List.filter_cons]
          split
          · rw [List.length_cons, List.length_cons, i2]
          · exact i2
end VL

set_option maxHeartbeats 4000000
namespace VL
open PySem PySem.Spec PyProof.Rows L2
theorem cand_upto {b : Be} {n : Nat} (hb : b.Ok n) {ah he : List (Option Int)} {k : Nat} {x : Int} (hk : k < he.length) (h0 : he.getD k none = none) {v : Int} (hv : v ≤ x) : candL b ah he = some v ↔ candL b ah (he.set k (some x)) = some v := by
  have hw := (b.u.wants_in (n := b.ls.length) (by have := hb.len.1; omega) hb.u).1
  have u := come_upto hb.ls (ah := ah) (x := x) hk h0
  exact ⟨falls_upto1 hw u hv, falls_upto1 hw u.symm hv⟩
/-- those that have struck are due just then; none that hasn't is due ahead of them -/
def Js (bs : List Be) (ah he : List (Option Int)) : Prop := he.length = bs.length ∧ ∀ (k : Nat) (b : Be) (v : Int), bs[k]? = some b → he.getD k none = some v → candL b ah he = some v ∧ ∀ (j : Nat) (b' : Be) (y : Int), bs[j]? = some b' → he.getD j none = none → candL b' ah he = some y → v ≤ y
/-- each stroke is what its rule wants -/
def RowOk (bs : List Be) (ah he : List (Option Int)) : Prop := he.length = bs.length ∧ ∀ (k : Nat) (b : Be), bs[k]? = some b → he.getD k none = candL b ah he
theorem getD_set {he : List (Option Int)} {k j : Nat} {v : Option Int} (hk : k < he.length) : (he.set k v).getD j none = if k = j then v else he.getD j none := by
  rw [List.getD_eq_getElem?_getD, List.getD_eq_getElem?_getD, List.getElem?_set]
  by_cases h : k = j
  · subst h; simp [hk]
  · simp [h]
theorem Js.step {bs : List Be} {ah he : List (Option Int)} {x : Int} {k : Nat} (hb : ∀ b ∈ bs, b.Ok bs.length) (J : Js bs ah he) (L : Least bs ah he bs.length (some (x, k))) : Js bs ah (he.set k (some x)) := by
  obtain ⟨hl, J⟩ := J
  obtain ⟨hk, ⟨b0, hb0, h0, hc0⟩, hmin⟩ := L
  have hk' : k < he.length := by omega
  refine ⟨by rw [List.length_set]; exact hl, fun i b v hi hv => ?_⟩
  have late : ∀ (j : Nat) (b' : Be) (y : Int), bs[j]? = some b' → (he.set k (some x)).getD j none = none → candL b' ah (he.set k (some x)) = some y → x < y ∨ (he.getD j none = none ∧ candL b' ah he = some y) := fun j b' y hj hn hy => by
    rw [getD_set hk'] at hn
    by_cases hkj : k = j
    · rw [if_pos hkj] at hn; cases hn
    · rw [if_neg hkj] at hn
      by_cases hyx : y ≤ x
      · exact .inr ⟨hn, (cand_upto (hb b' (List.mem_of_getElem? hj)) hk' h0 hyx).mpr hy⟩
      · exact .inl (by omega)
  rw [getD_set hk'] at hv
  have hx : v ≤ x ∧ candL b ah he = some v ∧ ∀ (j : Nat) (b' : Be) (y : Int), bs[j]? = some b' → he.getD j none = none → candL b' ah he = some y → v ≤ y := by
    by_cases hki : k = i
    · rw [if_pos hki] at hv
      cases hv
      subst hki
      rw [hb0] at hi
      cases hi
      refine ⟨Int.le_refl _, hc0, fun j b' y hj hn hy => hmin j b' y ?_ hj hn hy⟩
      exact (List.getElem?_eq_some_iff.mp hj).1
    · rw [if_neg hki] at hv
      obtain ⟨a1, a2⟩ := J i b v hi hv
      exact ⟨a2 k b0 x hb0 h0 hc0, a1, a2⟩
  obtain ⟨hvx, hcv, hall⟩ := hx
  refine ⟨(cand_upto (hb b (List.mem_of_getElem? hi)) hk' h0 hvx).mp hcv, fun j b' y hj hn hy => ?_⟩
  rcases late j b' y hj hn hy with q | ⟨q1, q2⟩
  · omega
  · exact hall j b' y hj q1 q2
theorem Js.done {bs : List Be} {ah he : List (Option Int)} (J : Js bs ah he) (L : Least bs ah he bs.length none) : RowOk bs ah he := by
  obtain ⟨hl, J⟩ := J
  refine ⟨hl, fun k b hk => ?_⟩
  cases h : he.getD k none with
  | none => exact (L k b (List.getElem?_eq_some_iff.mp hk).1 hk h).symm
  | some v => exact (J k b v hk h).1.symm
theorem Js.start {bs : List Be} {ah : List (Option Int)} : Js bs ah (List.replicate bs.length none) := by
  refine ⟨List.length_replicate, fun k b v hk hv => ?_⟩
  rw [List.getD_eq_getElem?_getD, List.getElem?_replicate] at hv
  split at hv <;> cases hv
def S_next_strokes (Φ : Ft) : Prop := ∃ r, Φ.fn "next_strokes" = some ⟨[.rd, .rd], r⟩ ∧ ∀ (bs : List Be) (ah : List (Option Int)) (m : Md), (∀ b ∈ bs, b.Ok bs.length) → bs.length ≤ 1000 → ah.length = bs.length → m ≠ .io →
  ∃ he, r [.sh, m] [chT bs, .lst (btT ah)] = .ok (.own (.lst (btT he))) [chT bs, .lst (btT ah)] ∧ RowOk bs ah he
def nones (he : List (Option Int)) : Nat := (he.filter Option.isNone).length
theorem nones_set : ∀ {he : List (Option Int)} {k : Nat} {x : Int}, k < he.length → he.getD k none = none → nones (he.set k (some x)) < nones he
  | [], _, _, h, _ => by cases h
  | a :: he, 0, x, _, h => by
    have : a = none := h
    subst this
    show ((some x :: he).filter Option.isNone).length < ((none :: he).filter Option.isNone).length
    simp
  | a :: he, k + 1, x, h, h0 => by
    have := nones_set (he := he) (k := k) (x := x) (by simpa using h) (by simpa using h0)
    unfold nones at this ⊢
    rw [List.set_cons_succ]
    cases a <;> simp <;> omega
theorem btT_set {he : List (Option Int)} {k : Nat} {x : Int} (h : k < he.length) : setIx (.lst (btT he)) (.int k) (.int x) = some (.lst (btT (he.set k (some x)))) := by
  show (ixN (btT he).length k).map _ = _
  have : ixN (btT he).length (k : Int) = some k := by
    unfold ixN
    rw [if_pos (by omega), if_pos (by simp; omega)]
    rfl
  rw [this]
  show some (T.lst ((he.map optT).set k (optT (some x)))) = _
  rw [← List.map_set]
theorem mult_non {n : Nat} (h : n ≤ 1000) : binT .Mult (.lst [.non]) (.int n) = some (.own (.lst (btT (List.replicate n none)))) := by
  show (if 0 ≤ (n : Int) ∧ (n : Int) ≤ 1000000 ∧ 1 * (n : Int).toNat ≤ LIM then some (Out.own (.lst (List.replicate (n : Int).toNat [T.non]).flatten)) else none) = _
  rw [if_pos ⟨by omega, by omega, len_le (by omega)⟩, show (n : Int).toNat = n by omega]
  have : (List.replicate n [T.non]).flatten = btT (List.replicate n none) := by
    show _ = (List.replicate n none).map optT
    rw [List.map_replicate]
    simp [optT]
  rw [this]
theorem p_next_strokes {Φ0 Φ : Ft} (h : Φ.fn "next_strokes" = some (Df.fn Φ0 c_next_strokes)) (H1 : S_least_to_come Φ0) : S_next_strokes Φ := by
  obtain ⟨r1, h1, q1⟩ := H1
  refine ⟨_, h, fun bs ah m hb hl ha hm => ?_⟩
  suffices hx : ∃ o outs, runDf Φ0 c_next_strokes [.sh, m] [chT bs, .lst (btT ah)] = .ok o outs ∧ ∃ he, o = .own (.lst (btT he)) ∧ outs = [chT bs, .lst (btT ah)] ∧ RowOk bs ah he by
    obtain ⟨_, _, h1, us, rfl, rfl, h2⟩ := hx; exact ⟨us, h1, h2⟩
  have go : ∀ (m : Md), m = .sh ∨ m = .bor → wSs Φ0 c_next_strokes.body (env0 4 [.sh, m] [chT bs, .lst (btT ah)]) (runQ [.sh, m] [chT bs, .lst (btT ah)] fun o outs => ∃ he, o = .own (.lst (btT he)) ∧ outs = [chT bs, .lst (btT ah)] ∧ RowOk bs ah he) fun _ _ => False := by
    intro m em
    have Q : ∀ he : List (Option Int), he.length = bs.length → ∃ p, r1 [.sh, m, .bor] [chT bs, .lst (btT ah), .lst (btT he)] = .ok (.val (bestT p)) [chT bs, .lst (btT ah), .lst (btT he)] ∧ Least bs ah he bs.length p := fun he hh =>
      q1 bs ah he m .bor hb hl ha hh (by rcases em with rfl | rfl <;> nofun) nofun
    obtain ⟨p, e1, L1⟩ := Q (List.replicate bs.length none) List.length_replicate
    have em0 : binT .Mult (.lst [.non]) (.int (bs.map Be.t).length) = some (.own (.lst (btT (List.replicate bs.length none)))) := by rw [List.length_map]; exact mult_non hl
    rcases em with rfl | rfl
    all_goals
      refine ⟨.own (.lst (btT (List.replicate bs.length none))), em0, _, h1, _, e1, ?_⟩
      refine whl_rule (fun n e => ∃ he p, e = [some (.sh, chT bs), some (Md.fl _, .lst (btT ah)), oL (btT he), some (.sh, bestT p)] ∧ Js bs ah he ∧ Least bs ah he bs.length p ∧ nones he = n) _ ⟨_, p, rfl, .start, L1, rfl⟩ ?_
      rintro n e ⟨he, p, rfl, J, L, rfl⟩
      cases p with
      | none => exact ⟨_, rfl, he, rfl, rfl, J.done L⟩
      | some q =>
        obtain ⟨x, k⟩ := q
        have hk : k < he.length := by rw [J.1]; exact L.1
        have J2 := J.step hb L
        obtain ⟨p2, e2, L2⟩ := Q (he.set k (some x)) J2.1
        obtain ⟨_, ⟨_, _, h0, _⟩, _⟩ := L
        refine ⟨_, rfl, _, rfl, _, btT_set hk, _, h1, _, e2, _, nones_set hk h0, _, p2, rfl, J2, L2, rfl⟩
  have mm : ∀ m : Md, m ≠ .io → m = .sh ∨ m = .bor := fun m hm => by cases m <;> first | exact .inl rfl | exact .inr rfl | exact absurd rfl hm
  rcases mm m hm with rfl | rfl
  · exact run_ex ⟨rfl, rfl⟩ (go .sh (.inl rfl))
  · exact run_ex ⟨rfl, rfl⟩ (go .bor (.inr rfl))
end VL

set_option maxHeartbeats 4000000
namespace VL
open PySem PySem.Spec PyProof.Rows L2
abbrev rwT (rows : List (List (Option Int))) : List T := rows.map fun r => .lst (btT r)
def startR (bs : List Be) : List (Option Int) := bs.map fun b => some b.st
structure Told (bs : List Be) (N : Nat) (rows : List (List (Option Int))) : Prop where
  len : rows.length = N + 1
  h0 : rows[0]? = some (startR bs)
  wd : ∀ r ∈ rows, r.length = bs.length
  nx : ∀ (i : Nat) (a h : List (Option Int)), rows[i]? = some a → rows[i + 1]? = some h → RowOk bs a h
theorem Told.snoc {bs : List Be} {N : Nat} {rows : List (List (Option Int))} {a h : List (Option Int)} (t : Told bs N rows) (ha : rows[N]? = some a) (hr : RowOk bs a h) : Told bs (N + 1) (rows ++ [h]) := by
  refine ⟨by simp [t.len], ?_, fun r hr' => ?_, fun i a' h' e1 e2 => ?_⟩
  · rw [List.getElem?_append_left (by have := t.len; omega)]; exact t.h0
  · rcases List.mem_append.mp hr' with q | q
    · exact t.wd r q
    · rw [List.mem_singleton.mp q]; exact hr.1
  · have hl := t.len
    by_cases hi : i + 1 < rows.length
    · rw [List.getElem?_append_left (by omega)] at e1 e2
      exact t.nx i a' h' e1 e2
    · have hi2 : i + 1 = rows.length := by
        have := (List.getElem?_eq_some_iff.mp e2).1
        simp at this
        omega
      have hN : i = N := by omega
      subst hN
      rw [List.getElem?_append_left (by omega), ha] at e1
      cases e1
      rw [List.getElem?_append_right (by omega), hi2, Nat.sub_self] at e2
      cases e2
      exact hr
def S_strokes (Φ : Ft) : Prop := ∃ r, Φ.fn "strokes" = some ⟨[.rd, .rd], r⟩ ∧ ∀ (bs : List Be) (N : Nat), (∀ b ∈ bs, b.Ok bs.length) → bs.length ≤ 1000 → N ≤ 100000 →
  ∃ rows, r [.sh, .sh] [chT bs, .int N] = .ok (.own (.lst (rwT rows))) [chT bs, .int N] ∧ Told bs N rows
theorem p_strokes {Φ0 Φ : Ft} (h : Φ.fn "strokes" = some (Df.fn Φ0 c_strokes)) (H1 : S_next_strokes Φ0) : S_strokes Φ := by
  obtain ⟨r1, h1, q1⟩ := H1
  refine ⟨_, h, fun bs N hb hl hN => ?_⟩
  suffices hx : ∃ o outs, runDf Φ0 c_strokes [.sh, .sh] [chT bs, .int N] = .ok o outs ∧ ∃ rows, o = .own (.lst (rwT rows)) ∧ outs = [chT bs, .int N] ∧ Told bs N rows by
    obtain ⟨_, _, h1, us, rfl, rfl, h2⟩ := hx; exact ⟨us, h1, h2⟩
  refine run_ex ⟨rfl, rfl⟩ ⟨_, rfl, ?_⟩
  refine lc_rule (btT (startR bs)) ⟨⟨by simp [startR], len_le (by simp; omega)⟩, fun j t u e1 e2 => ?_, ?_⟩
  · have e1 : (bs.map Be.t)[j]? = some t := e1
    rw [List.getElem?_map] at e1
    obtain ⟨b, hbj, rfl⟩ := Option.map_eq_some_iff.mp e1
    have e2 : (((bs.map fun b => some b.st)).map optT)[j]? = some u := e2
    rw [List.getElem?_map, List.getElem?_map, hbj] at e2
    cases e2
    exact ⟨_, rfl, rfl, rfl⟩
  · refine ⟨okR_of (by omega) (by omega), ?_⟩
    refine for_rule (fun i e => ∃ rows, e = [some (.sh, chT bs), vi N, oL (rwT rows), none, none] ∧ Told bs i rows) ⟨[startR bs], rfl, rfl, rfl, fun r hr => by rw [List.mem_singleton.mp hr]; simp [startR], fun i a h e1 e2 => by simp at e2⟩ ?_ ?_
    · rintro i t e ht ⟨rows, rfl, tl⟩
      obtain ⟨rfl, hi⟩ := range_at ht
      have hlen := tl.len
      have ha : rows[i]? = some (rows[i]'(by omega)) := List.getElem?_eq_getElem (by omega)
      generalize rows[i]'(by omega) = a at ha
      obtain ⟨he, f1, f2⟩ := q1 bs a .sh hb hl (tl.wd a (List.mem_of_getElem? ha)) nofun
      have ei : ixT (.lst (rwT rows)) (.int (0 + i)) = some (.lst (btT a)) := atI_nat (by omega) (by rw [List.getElem?_map, show (0 + (i : Int)).toNat = i by omega, ha]; rfl)
      refine ⟨_, h1, _, ei, _, f1, len_lt (by simp; omega), rows ++ [he], ?_, tl.snoc ha f2⟩
      show _ = [some (.sh, chT bs), vi N, oL ((rows ++ [he]).map fun r => .lst (btT r)), none, none]
      rw [List.map_append]
      rfl
    · rintro e ⟨rows, rfl, tl⟩
      exact ⟨_, rfl, rows, rfl, rfl, by
        have : (rangeT 0 (N : Int)).length = N := by simp [rangeT]
        rw [this] at tl
        exact tl⟩
end VL

set_option maxHeartbeats 4000000
namespace VL
open PySem PySem.Spec PyProof.Rows L2
/-- alike but for names and starts -/
def Same (bs bs' : List Be) : Prop := bs.length = bs'.length ∧ ∀ (k : Nat) (b b' : Be), bs[k]? = some b → bs'[k]? = some b' → b.u = b'.u ∧ b.ls = b'.ls
def Later (d : Int) (ah ah' : List (Option Int)) : Prop := ∀ (k : Nat) (u : Int), ah.getD k none = some u → ∃ u', ah'.getD k none = some u' ∧ u' ≤ u + d
/-- so many come by v: so many of the others by v + d -/
theorem cnt_come {ls : List Li} {n : Nat} (hl : ∀ l ∈ ls, l.Ok n) {ah ah' he he' : List (Option Int)} {d v : Int} (ha : Later d ah ah') (hh : ∀ (k : Nat) (u : Int), u < v → he.getD k none = some u → ∃ u', he'.getD k none = some u' ∧ u' ≤ u + d) :
    cntLe ((comeL ls ah he).filterMap id) v ≤ cntLe ((comeL ls ah' he').filterMap id) (v + d) := by
  induction ls with
  | nil => exact Nat.le_refl _
  | cons l ls ih =>
    have ih := ih fun l hl' => hl l (List.mem_cons_of_mem _ hl')
    obtain ⟨lw, lb0, lb1⟩ := hl l (List.mem_cons_self ..)
    have hc : ∀ a h : List (Option Int), comeL (l :: ls) a h = (if l.k then a.getD l.w none else h.getD l.w none).map (· + l.b) :: comeL ls a h := fun a h => rfl
    have more : ∀ (o : Option Int) (ks : List (Option Int)) (t : Int), cntLe (ks.filterMap id) t ≤ cntLe ((o :: ks).filterMap id) t := fun o ks t => by
      cases o with
      | none => exact Nat.le_refl _
      | some y =>
        show cntLe _ t ≤ cntLe (y :: ks.filterMap id) t
        unfold cntLe
        rw [List.filter_cons]
        split
        · rw [List.length_cons]; omega
        · exact Nat.le_refl _
    rw [hc, hc]
    cases e : (if l.k then ah.getD l.w none else he.getD l.w none) with
    | none => exact Nat.le_trans ih (more _ _ _)
    | some u =>
      by_cases hv : u + l.b ≤ v
      · have : ∃ u', (if l.k then ah'.getD l.w none else he'.getD l.w none) = some u' ∧ u' ≤ u + d := by
          by_cases hk : l.k
          · rw [if_pos hk] at e ⊢
            exact ha _ _ e
          · rw [if_neg hk] at e ⊢
            exact hh _ _ (by omega) e
        obtain ⟨u', e', hu⟩ := this
        rw [e']
        show cntLe ((u + l.b) :: (comeL ls ah he).filterMap id) v ≤ cntLe ((u' + l.b) :: (comeL ls ah' he').filterMap id) (v + d)
        unfold cntLe at ih ⊢
        rw [List.filter_cons, List.filter_cons, if_pos (decide_eq_true hv), if_pos (decide_eq_true (by omega)), List.length_cons, List.length_cons]
        omega
      · refine Nat.le_trans ?_ (more _ _ _)
        show cntLe ((u + l.b) :: (comeL ls ah he).filterMap id) v ≤ _
        unfold cntLe at ih ⊢
        rw [List.filter_cons, if_neg (by simpa using hv)]
        exact ih
/-- where so many have come by t it falls by t -/
theorem falls_by {w : Int} (hw : 1 ≤ w) {bs : List (Option Int)} {t : Int} (h : w ≤ (cntLe (bs.filterMap id) t : Int)) : ∃ v, fallsL w bs = some v ∧ v ≤ t := by
  unfold fallsL
  generalize bs.filterMap id = xs at h
  have h1 : cntLe xs t ≤ xs.length := List.length_filter_le _ _
  have hl : (w - 1).toNat < (sortI xs).length := by rw [sortI_len]; omega
  refine ⟨_, List.getElem?_eq_getElem hl, ?_⟩
  by_cases hc : (sortI xs)[(w - 1).toNat] ≤ t
  · exact hc
  · have := cnt_lt (sortI_sorted xs) hl (b := t) (by omega)
    rw [cnt_perm (sortI_perm xs)] at this
    omega
theorem low : ∀ he : List (Option Int), ∃ L : Int, ∀ (k : Nat) (u : Int), he.getD k none = some u → L ≤ u
  | [] => ⟨0, fun k u e => by simp at e⟩
  | none :: he => by
    obtain ⟨L, hL⟩ := low he
    refine ⟨L, fun k u e => ?_⟩
    cases k with
    | zero => cases e
    | succ k => exact hL k u (by simpa using e)
  | some a :: he => by
    obtain ⟨L, hL⟩ := low he
    refine ⟨min a L, fun k u e => ?_⟩
    cases k with
    | zero =>
      have : a = u := by simpa using e
      omega
    | succ k =>
      have := hL k u (by simpa using e)
      omega
theorem mono_row {bs bs' : List Be} {ah ah' he he' : List (Option Int)} {d : Int} (hb : ∀ b ∈ bs, b.Ok bs.length) (hs : Same bs bs') (ha : Later d ah ah') (hr : RowOk bs ah he) (hr' : RowOk bs' ah' he') : Later d he he' := by
  obtain ⟨L, hL⟩ := low he
  have one : ∀ (k : Nat) (v : Int), he.getD k none = some v → (∀ (k : Nat) (u : Int), u < v → he.getD k none = some u → ∃ u', he'.getD k none = some u' ∧ u' ≤ u + d) → ∃ v', he'.getD k none = some v' ∧ v' ≤ v + d := by
    intro k v e ih
    have hk : k < he.length := by
      by_cases h : k < he.length
      · exact h
      · rw [List.getD_eq_getElem?_getD, List.getElem?_eq_none (by omega)] at e
        cases e
    have hkb : k < bs.length := by rw [← hr.1]; exact hk
    have hkb' : k < bs'.length := by rw [← hs.1]; exact hkb
    have e1 := List.getElem?_eq_getElem hkb
    have e2 := List.getElem?_eq_getElem hkb'
    obtain ⟨s1, s2⟩ := hs.2 k _ _ e1 e2
    have bo := hb _ (List.getElem_mem hkb)
    have hw := (bs[k].u.wants_in (n := bs[k].ls.length) (by have := bo.len.1; omega) bo.u).1
    have hv : candL bs[k] ah he = some v := by rw [← hr.2 k _ e1]; exact e
    have hc := ((falls_is hw).mp hv).2.1
    have hcc := cnt_come bo.ls ha ih
    obtain ⟨v', f1, f2⟩ := falls_by (t := v + d) hw (bs := comeL bs[k].ls ah' he') (by omega)
    refine ⟨v', ?_, f2⟩
    rw [hr'.2 k _ e2]
    unfold candL
    rw [← s1, ← s2]
    exact f1
  have H : ∀ (n : Nat) (k : Nat) (v : Int), (v - L).toNat < n → he.getD k none = some v → ∃ v', he'.getD k none = some v' ∧ v' ≤ v + d := by
    intro n
    induction n with
    | zero => intro k v hn; omega
    | succ n ih =>
      intro k v hn e
      refine one k v e fun j u hu eu => ih j u ?_ eu
      have := hL j u eu
      omega
  exact fun k v e => H _ k v (Nat.lt_succ_self _) e
theorem told_later {bs bs' : List Be} {N : Nat} {rows rows' : List (List (Option Int))} {d : Int} (hb : ∀ b ∈ bs, b.Ok bs.length) (hs : Same bs bs') (h0 : ∀ (k : Nat) (b b' : Be), bs[k]? = some b → bs'[k]? = some b' → b'.st ≤ b.st + d) (t : Told bs N rows) (t' : Told bs' N rows') :
    ∀ (i : Nat) (r r' : List (Option Int)), rows[i]? = some r → rows'[i]? = some r' → Later d r r'
  | 0, r, r', e, e' => by
    rw [t.h0] at e
    rw [t'.h0] at e'
    cases e
    cases e'
    intro k u hu
    have hk : k < bs.length := by
      by_cases h : k < bs.length
      · exact h
      · rw [List.getD_eq_getElem?_getD, List.getElem?_eq_none (by simp [startR]; omega)] at hu
        cases hu
    have hk' : k < bs'.length := by rw [← hs.1]; exact hk
    have e1 := List.getElem?_eq_getElem hk
    have e2 := List.getElem?_eq_getElem hk'
    have q1 : (startR bs).getD k none = some bs[k].st := by simp [startR, List.getD_eq_getElem?_getD, e1]
    have q2 : (startR bs').getD k none = some bs'[k].st := by simp [startR, List.getD_eq_getElem?_getD, e2]
    rw [q1] at hu
    cases hu
    exact ⟨_, q2, h0 k _ _ e1 e2⟩
  | i + 1, r, r', e, e' => by
    have hi : i < rows.length := by have := (List.getElem?_eq_some_iff.mp e).1; omega
    have hi' : i < rows'.length := by have := (List.getElem?_eq_some_iff.mp e').1; omega
    have a1 := List.getElem?_eq_getElem hi
    have a2 := List.getElem?_eq_getElem hi'
    exact mono_row hb hs (told_later hb hs h0 t t' i _ _ a1 a2) (t.nx i _ _ a1 e) (t'.nx i _ _ a2 e')
/-- the same but for names and starts, starts alike: the same rows -/
theorem told_one {bs : List Be} {N : Nat} {rows rows' : List (List (Option Int))} (hb : ∀ b ∈ bs, b.Ok bs.length) (t : Told bs N rows) (t' : Told bs N rows') : rows = rows' := by
  have hs : Same bs bs := ⟨rfl, fun k b b' e e' => by rw [e] at e'; cases e'; exact ⟨rfl, rfl⟩⟩
  have h0 : ∀ (k : Nat) (b b' : Be), bs[k]? = some b → bs[k]? = some b' → b'.st ≤ b.st + 0 := fun k b b' e e' => by rw [e] at e'; cases e'; omega
  refine List.ext_getElem (by rw [t.len, t'.len]) fun i h1 h2 => ?_
  have e1 := List.getElem?_eq_getElem h1
  have e2 := List.getElem?_eq_getElem h2
  have l1 := told_later hb hs h0 t t' i _ _ e1 e2
  have l2 := told_later hb hs h0 t' t i _ _ e2 e1
  have w1 := t.wd _ (List.getElem_mem h1)
  have w2 := t'.wd _ (List.getElem_mem h2)
  refine List.ext_getElem (by rw [w1, w2]) fun k h3 h4 => ?_
  have g1 : rows[i].getD k none = rows[i][k] := by rw [List.getD_eq_getElem?_getD, List.getElem?_eq_getElem h3]; rfl
  have g2 : rows'[i].getD k none = rows'[i][k] := by rw [List.getD_eq_getElem?_getD, List.getElem?_eq_getElem h4]; rfl
  cases c1 : rows[i][k] with
  | none =>
    cases c2 : rows'[i][k] with
    | none => rfl
    | some v =>
      obtain ⟨u, hu, _⟩ := l2 k v (g2.trans c2)
      rw [g1, c1] at hu
      cases hu
  | some v =>
    obtain ⟨u, hu, hl⟩ := l1 k v (g1.trans c1)
    rw [g2] at hu
    obtain ⟨v', hv', hl'⟩ := l2 k u (g2.trans hu)
    rw [g1, c1] at hv'
    cases hv'
    rw [hu]
    congr 1
    omega
end VL

set_option maxHeartbeats 4000000
namespace VL
open PySem PySem.Spec PyProof.Rows L2
/-! ### who waits: the plain law -/
def cntB (ls : List Li) (A H : List Bool) : Nat := (ls.filter fun l => if l.k then A.getD l.w false else H.getD l.w false).length
def enB (b : Be) (A H : List Bool) : Bool := decide (b.u.wants b.ls.length ≤ (cntB b.ls A H : Int))
def stepB (bs : List Be) (A H : List Bool) : List Bool := bs.map fun b => enB b A H
def itB (bs : List Be) (A : List Bool) : Nat → List Bool
  | 0 => List.replicate bs.length false
  | j + 1 => stepB bs A (itB bs A j)
def fallB (bs : List Be) (A : List Bool) : List Bool := itB bs A bs.length
def LeB (A B : List Bool) : Prop := ∀ k : Nat, A.getD k false = true → B.getD k false = true
theorem stepB_len {bs : List Be} {A H : List Bool} : (stepB bs A H).length = bs.length := by simp [stepB]
theorem itB_len {bs : List Be} {A : List Bool} : ∀ j, (itB bs A j).length = bs.length
  | 0 => by simp [itB]
  | j + 1 => stepB_len
theorem filter_len_le {α : Type} {p q : α → Bool} : ∀ {xs : List α}, (∀ x ∈ xs, p x = true → q x = true) → (xs.filter p).length ≤ (xs.filter q).length
  | [], _ => Nat.le_refl _
  | x :: xs, h => by
    have ih := filter_len_le (p := p) (q := q) (xs := xs) fun y hy => h y (List.mem_cons_of_mem _ hy)
    have hx := h x List.mem_cons_self
    cases hp : p x <;> cases hq : q x <;> simp [List.filter_cons, hp, hq] <;> first | omega | (rw [hp] at hx; rw [hq] at hx; exact absurd (hx rfl) (by decide))
theorem cntB_mono {ls : List Li} {A A' H H' : List Bool} (ha : LeB A A') (hh : LeB H H') : cntB ls A H ≤ cntB ls A' H' := by
  refine filter_len_le fun l _ h => ?_
  split at h
  · rename_i c; rw [if_pos c]; exact ha _ h
  · rename_i c; rw [if_neg c]; exact hh _ h
theorem stepB_at {bs : List Be} {A H : List Bool} {k : Nat} {b : Be} (e : bs[k]? = some b) : (stepB bs A H).getD k false = enB b A H := by
  unfold stepB
  rw [List.getD_eq_getElem?_getD, List.getElem?_map, e]
  rfl
theorem stepB_mono {bs : List Be} {A A' H H' : List Bool} (ha : LeB A A') (hh : LeB H H') : LeB (stepB bs A H) (stepB bs A' H') := by
  intro k h
  cases e : bs[k]? with
  | none =>
    rw [List.getD_eq_getElem?_getD, List.getElem?_eq_none (by rw [stepB_len]; exact List.getElem?_eq_none_iff.mp e)] at h
    cases h
  | some b =>
    rw [stepB_at e] at h ⊢
    have h1 := of_decide_eq_true h
    have h2 := cntB_mono (ls := b.ls) ha hh
    exact decide_eq_true (by omega)
theorem LeB.refl {A : List Bool} : LeB A A := fun _ h => h
theorem LeB.eq {A B : List Bool} (hl : A.length = B.length) (h1 : LeB A B) (h2 : LeB B A) : A = B := by
  refine List.ext_getElem hl fun k a b => ?_
  have g1 : A.getD k false = A[k] := by rw [List.getD_eq_getElem?_getD, List.getElem?_eq_getElem a]; rfl
  have g2 : B.getD k false = B[k] := by rw [List.getD_eq_getElem?_getD, List.getElem?_eq_getElem b]; rfl
  have p1 := h1 k
  have p2 := h2 k
  rw [g1, g2] at p1
  rw [g1, g2] at p2
  cases hA : A[k] <;> cases hB : B[k] <;> simp_all
theorem zero_le {n : Nat} {B : List Bool} : LeB (List.replicate n false) B := fun k h => by
  rw [List.getD_eq_getElem?_getD, List.getElem?_replicate] at h
  split at h <;> cases h
theorem itB_up {bs : List Be} {A : List Bool} : ∀ j, LeB (itB bs A j) (itB bs A (j + 1))
  | 0 => zero_le
  | j + 1 => stepB_mono .refl (itB_up j)
theorem itB_mono {bs : List Be} {A A' : List Bool} (h : LeB A A') : ∀ j, LeB (itB bs A j) (itB bs A' j)
  | 0 => .refl
  | j + 1 => stepB_mono h (itB_mono h j)
theorem itB_lfp {bs : List Be} {A H : List Bool} (h : LeB (stepB bs A H) H) : ∀ j, LeB (itB bs A j) H
  | 0 => zero_le
  | j + 1 => fun k hk => h k (stepB_mono .refl (itB_lfp h j) k hk)
/-- a chain in which each step but the still ones goes up ends -/
theorem chain_stop {α : Type} (x : Nat → α) (m : α → Nat) (n : Nat) (hm : ∀ j, m (x j) ≤ n) (hs : ∀ j, x (j + 1) = x j ∨ m (x j) < m (x (j + 1))) (hf : ∀ j, x (j + 1) = x j → x (j + 2) = x (j + 1)) : ∀ j, n ≤ j → x (j + 1) = x j := by
  have P : ∀ j, x (j + 1) = x j ∨ j + 1 ≤ m (x (j + 1)) := by
    intro j
    induction j with
    | zero => rcases hs 0 with h | h
              · exact .inl h
              · exact .inr (by omega)
    | succ j ih =>
      rcases ih with h | h
      · exact .inl (hf j h)
      · rcases hs (j + 1) with g | g
        · exact .inl g
        · exact .inr (by omega)
  intro j hj
  rcases P j with h | h
  · exact h
  · have := hm (j + 1); omega
def trues (A : List Bool) : Nat := (A.filter id).length
theorem trues_lt : ∀ {A B : List Bool}, A.length = B.length → LeB A B → A = B ∨ trues A < trues B
  | [], [], _, _ => .inl rfl
  | [], _ :: _, h, _ => by cases h
  | _ :: _, [], h, _ => by cases h
  | a :: A, b :: B, hl, h => by
    have ih := trues_lt (A := A) (B := B) (by simpa using hl) fun k hk => by
      have := h (k + 1)
      simpa using this (by simpa using hk)
    have h0 : a = true → b = true := fun e => by simpa using h 0 (by simpa using e)
    unfold trues at ih ⊢
    rcases ih with ih | ih
    · subst ih
      cases a <;> cases b <;> simp at h0 ⊢
    · refine .inr ?_
      cases a <;> cases b <;> simp at h0 ⊢ <;> omega
theorem trues_le {A : List Bool} : trues A ≤ A.length := List.length_filter_le _ _
theorem itB_fix {bs : List Be} {A : List Bool} : stepB bs A (fallB bs A) = fallB bs A :=
  chain_stop (itB bs A) trues bs.length (fun j => by have := trues_le (A := itB bs A j); rw [itB_len] at this; exact this)
    (fun j => by
      rcases trues_lt (by rw [itB_len, itB_len]) (itB_up (bs := bs) (A := A) j) with h | h
      · exact .inl h.symm
      · exact .inr h)
    (fun j h => by show stepB bs A (itB bs A (j + 1)) = stepB bs A (itB bs A j); rw [h]) bs.length (Nat.le_refl _)
theorem fallB_len {bs : List Be} {A : List Bool} : (fallB bs A).length = bs.length := itB_len _
theorem fallB_lfp {bs : List Be} {A H : List Bool} (h : LeB (stepB bs A H) H) : LeB (fallB bs A) H := itB_lfp h _
theorem fallB_mono {bs : List Be} {A A' : List Bool} (h : LeB A A') : LeB (fallB bs A) (fallB bs A') := itB_mono h _
/-! ### and strokes -/
def sm (xs : List (Option Int)) : List Bool := xs.map Option.isSome
theorem sm_at {xs : List (Option Int)} {k : Nat} : (sm xs).getD k false = (xs.getD k none).isSome := by
  unfold sm
  rw [List.getD_eq_getElem?_getD, List.getD_eq_getElem?_getD, List.getElem?_map]
  cases xs[k]? <;> rfl
theorem filterMap_len {α : Type} : ∀ {xs : List (Option α)}, (xs.filterMap id).length = (xs.filter Option.isSome).length
  | [] => rfl
  | none :: xs => by simpa using filterMap_len (xs := xs)
  | some x :: xs => by simpa using filterMap_len (xs := xs)
theorem come_len {ls : List Li} {ah he : List (Option Int)} : ((comeL ls ah he).filterMap id).length = cntB ls (sm ah) (sm he) := by
  rw [filterMap_len]
  unfold comeL cntB
  rw [List.filter_map, List.length_map]
  congr 1
  refine List.filter_congr fun l _ => ?_
  show ((if l.k then ah.getD l.w none else he.getD l.w none).map (· + l.b)).isSome = _
  rw [sm_at, sm_at]
  cases l.k <;> simp
theorem falls_some {w : Int} {xs : List (Option Int)} (hw : 1 ≤ w) : (fallsL w xs).isSome = decide (w ≤ ((xs.filterMap id).length : Int)) := by
  unfold fallsL
  by_cases h : (w - 1).toNat < (sortI (xs.filterMap id)).length
  · rw [List.getElem?_eq_getElem h]
    rw [sortI_len] at h
    rw [decide_eq_true (by omega)]
    rfl
  · rw [List.getElem?_eq_none (by omega)]
    rw [sortI_len] at h
    rw [decide_eq_false (by omega)]
    rfl
theorem cand_some {b : Be} {n : Nat} (hb : b.Ok n) {ah he : List (Option Int)} : (candL b ah he).isSome = enB b (sm ah) (sm he) := by
  have hw := (b.u.wants_in (n := b.ls.length) (by have := hb.len.1; omega) hb.u).1
  unfold candL enB
  rw [falls_some hw, come_len]
/-- which strokes of a row fall -/
theorem row_falls {bs : List Be} {ah he : List (Option Int)} (hb : ∀ b ∈ bs, b.Ok bs.length) (hr : RowOk bs ah he) : sm he = fallB bs (sm ah) := by
  have hst : stepB bs (sm ah) (sm he) = sm he := by
    refine List.ext_getElem (by simp [stepB, sm, hr.1]) fun k h1 h2 => ?_
    have hk : k < bs.length := by rw [stepB_len] at h1; exact h1
    have e := List.getElem?_eq_getElem hk
    have := hr.2 k _ e
    have g1 : (stepB bs (sm ah) (sm he))[k] = enB bs[k] (sm ah) (sm he) := by simp [stepB]
    have g2 : (sm he)[k] = (he.getD k none).isSome := by
      rw [← sm_at, List.getD_eq_getElem?_getD, List.getElem?_eq_getElem h2]; rfl
    rw [g1, g2, this, cand_some (hb _ (List.getElem_mem hk))]
  refine LeB.eq (by rw [fallB_len]; simp [sm, hr.1]) ?_ (fallB_lfp (by rw [hst]; exact .refl))
  obtain ⟨L, hL⟩ := low he
  have H : ∀ (n : Nat) (k : Nat) (v : Int), (v - L).toNat < n → he.getD k none = some v → (fallB bs (sm ah)).getD k false = true := by
    intro n
    induction n with
    | zero => intro k v hn; omega
    | succ n ih =>
      intro k v hn e
      have hk : k < bs.length := by
        rw [← hr.1]
        by_cases h : k < he.length
        · exact h
        · rw [List.getD_eq_getElem?_getD, List.getElem?_eq_none (by omega)] at e
          cases e
      have e1 := List.getElem?_eq_getElem hk
      have bo := hb _ (List.getElem_mem hk)
      have hw := (bs[k].u.wants_in (n := bs[k].ls.length) (by have := bo.len.1; omega) bo.u).1
      have hv : candL bs[k] ah he = some v := by rw [← hr.2 k _ e1]; exact e
      have hc := ((falls_is hw).mp hv).2.1
      rw [← itB_fix, stepB_at e1]
      refine decide_eq_true (Int.le_trans hc (Int.ofNat_le.mpr ?_))
      unfold cntLe comeL cntB
      rw [List.filterMap_map]
      have : ∀ ls : List Li, (∀ l ∈ ls, 1 ≤ l.b) → ((ls.filterMap (fun l : Li => (if l.k then ah.getD l.w none else he.getD l.w none).map (· + l.b))).filter fun o => decide (o ≤ v)).length ≤ (ls.filter fun l => if l.k then (sm ah).getD l.w false else (fallB bs (sm ah)).getD l.w false).length := by
        intro ls
        induction ls with
        | nil => intro _; exact Nat.le_refl _
        | cons l ls ihl =>
          intro hl
          have ih2 := ihl fun x hx => hl x (List.mem_cons_of_mem _ hx)
          have lb := hl l List.mem_cons_self
          rw [List.filterMap_cons, List.filter_cons]
          cases ck : l.k with
          | true =>
            simp only [if_true]
            rw [sm_at]
            cases ca : ah.getD l.w none with
            | none => simpa using ih2
            | some x =>
              simp only [Option.map_some, Option.isSome_some, if_true]
              rw [List.filter_cons]
              split <;> (try simp only [List.length_cons]) <;> omega
          | false =>
            simp only [Bool.false_eq_true, if_false]
            cases ca : he.getD l.w none with
            | none =>
              simp only [Option.map_none]
              split <;> (try simp only [List.length_cons]) <;> omega
            | some x =>
              simp only [Option.map_some]
              rw [List.filter_cons]
              by_cases hx : x + l.b ≤ v
              · rw [if_pos (decide_eq_true hx), if_pos (ih l.w x (by have := hL l.w x ca; omega) ca)]
                simp only [List.length_cons]
                omega
              · rw [if_neg (by simpa using hx)]
                split <;> (try simp only [List.length_cons]) <;> omega
      exact this _ fun l hl => (bo.ls l hl).2.1
  intro k hk
  rw [sm_at] at hk
  obtain ⟨v, hv⟩ := Option.isSome_iff_exists.mp hk
  exact H _ k v (Nat.lt_succ_self _) hv
theorem sm_start {bs : List Be} : sm (startR bs) = List.replicate bs.length true := by
  unfold sm startR
  rw [List.map_map]
  exact List.eq_replicate_iff.mpr ⟨by simp, fun x hx => by obtain ⟨b, _, rfl⟩ := List.mem_map.mp hx; rfl⟩
/-- whose strokes fall, from stroke to stroke -/
def hereB (bs : List Be) : Nat → List Bool
  | 0 => List.replicate bs.length true
  | j + 1 => fallB bs (hereB bs j)
theorem hereB_len {bs : List Be} : ∀ j, (hereB bs j).length = bs.length
  | 0 => by simp [hereB]
  | j + 1 => fallB_len
theorem told_falls {bs : List Be} {N : Nat} {rows : List (List (Option Int))} (hb : ∀ b ∈ bs, b.Ok bs.length) (t : Told bs N rows) : ∀ (i : Nat) (r : List (Option Int)), rows[i]? = some r → sm r = hereB bs i
  | 0, r, e => by rw [t.h0] at e; cases e; exact sm_start
  | i + 1, r, e => by
    have hi : i < rows.length := by have := (List.getElem?_eq_some_iff.mp e).1; omega
    have e1 := List.getElem?_eq_getElem hi
    rw [row_falls hb (t.nx i _ _ e1 e), told_falls hb t i _ e1]
    rfl
theorem all_ge {n : Nat} {B : List Bool} (h : B.length = n) : LeB B (List.replicate n true) := fun k hk => by
  rw [List.getD_eq_getElem?_getD] at hk ⊢
  rw [List.getElem?_replicate]
  by_cases q : k < n
  · rw [if_pos q]; rfl
  · rw [List.getElem?_eq_none (by omega)] at hk; cases hk
theorem here_down {bs : List Be} : ∀ j, LeB (hereB bs (j + 1)) (hereB bs j)
  | 0 => all_ge (by rw [hereB_len])
  | j + 1 => fallB_mono (here_down j)
def falses (A : List Bool) : Nat := A.length - trues A
theorem here_stop {bs : List Be} : ∀ j, bs.length ≤ j → hereB bs (j + 1) = hereB bs j :=
  chain_stop (hereB bs) falses bs.length (fun j => by unfold falses; rw [hereB_len]; omega)
    (fun j => by
      rcases trues_lt (by rw [hereB_len, hereB_len]) (here_down (bs := bs) j) with h | h
      · exact .inl h
      · refine .inr ?_
        have := trues_le (A := hereB bs j)
        unfold falses
        rw [hereB_len, hereB_len] at *
        omega)
    (fun j h => by show fallB bs (hereB bs (j + 1)) = fallB bs (hereB bs j); rw [h])
theorem here_last {bs : List Be} {j : Nat} (h : bs.length ≤ j) : hereB bs j = hereB bs bs.length := by
  induction j with
  | zero => have : bs.length = 0 := by omega
            rw [this]
  | succ j ih =>
    by_cases q : bs.length ≤ j
    · rw [here_stop j q, ih q]
    · have : bs.length = j + 1 := by omega
      rw [this]
theorem here_anti {bs : List Be} {i j : Nat} (h : i ≤ j) : LeB (hereB bs j) (hereB bs i) := by
  induction j with
  | zero => have : i = 0 := by omega
            subst this; exact .refl
  | succ j ih =>
    by_cases q : i ≤ j
    · exact fun k hk => ih q k (here_down j k hk)
    · have : i = j + 1 := by omega
      subst this; exact .refl
end VL

set_option maxHeartbeats 4000000
namespace VL
open PySem PySem.Spec PyProof.Rows L2
/-! ### who waits: the walks -/
abbrev bL (A : List Bool) : List T := A.map T.bl
theorem bL_at {A : List Bool} {k : Nat} (h : k < A.length) : ixT (.lst (bL A)) (.int k) = some (.bl (A.getD k false)) :=
  atI_nat (by omega) (by rw [List.getElem?_map, List.getD_eq_getElem?_getD, show (k : Int).toNat = k by omega, List.getElem?_eq_getElem h]; rfl)
theorem md2 {m : Md} (h : m ≠ .io) : m = .sh ∨ m = .bor := by cases m <;> first | exact .inl rfl | exact .inr rfl | exact absurd rfl h
def S_has_enough (Φ : Ft) : Prop := ∃ r, Φ.fn "has_enough" = some ⟨[.rd, .rd, .rd], r⟩ ∧ ∀ (b : Be) (n : Nat) (A H : List Bool) (m m' : Md), b.Ok n → A.length = n → H.length = n → m ≠ .io → m' ≠ .io →
  r [.sh, m, m'] [b.t, .lst (bL A), .lst (bL H)] = .ok (.val (.bl (enB b A H))) [b.t, .lst (bL A), .lst (bL H)]
theorem p_has_enough {Φ0 Φ : Ft} (h : Φ.fn "has_enough" = some (Df.fn Φ0 c_has_enough)) (H1 : S_rule_of Φ0) (H2 : S_wants Φ0) : S_has_enough Φ := by
  obtain ⟨r1, h1, q1, _⟩ := H1
  refine ⟨_, h, fun b n A H m m' hb ha hh hm hm' => run_rule ⟨rfl, rfl⟩ ?_⟩
  obtain ⟨r2, h2, q2⟩ := H2 b.u
  have hN : (((b.ls.map Li.t).length : Nat) : Int) = b.ls.length := by rw [List.length_map]
  have e1 := q1 b.u (b.ls.map Li.t).length (by rw [hN]; exact hb.u)
  have e2 := q2 (b.ls.map Li.t).length
  have go : ∀ (m m' : Md), m = .sh ∨ m = .bor → m' = .sh ∨ m' = .bor → wSs Φ0 c_has_enough.body (env0 7 [.sh, m, m'] [b.t, .lst (bL A), .lst (bL H)]) (runK [.sh, m, m'] [b.t, .lst (bL A), .lst (bL H)] (.ok (.val (.bl (enB b A H))) [b.t, .lst (bL A), .lst (bL H)])) (runX [.sh, m, m'] [b.t, .lst (bL A), .lst (bL H)] (.ok (.val (.bl (enB b A H))) [b.t, .lst (bL A), .lst (bL H)])) := by
    intro m m' em em'
    refine ⟨_, rfl, ⟨(b.ls.map Li.t, []), rfl, ?_⟩⟩
    refine for_rule (fun j e => e = [some (.sh, b.t), some (m.fl, .lst (bL A)), some (m'.fl, .lst (bL H)), vi (cntB (b.ls.take j) A H), none, none, none]) rfl ?_ ?_
    · rintro j t e ht rfl
      rw [List.getElem?_map] at ht
      obtain ⟨l, hl, rfl⟩ := Option.map_eq_some_iff.mp ht
      obtain ⟨lw, lb0, lb1⟩ := hb.ls l (List.mem_of_getElem? hl)
      have hnext : cntB (b.ls.take (j + 1)) A H = cntB (b.ls.take j) A H + if (if l.k then A.getD l.w false else H.getD l.w false) then 1 else 0 := by
        unfold cntB
        rw [List.take_add_one, hl, List.filter_append, List.length_append]
        congr 1
        show (List.filter _ [l]).length = _
        rw [List.filter_cons]
        generalize (if l.k = true then A.getD l.w false else H.getD l.w false) = v
        cases v <;> rfl
      obtain ⟨w, lb, lk⟩ := l
      have fin : ∀ v : Bool, cntB (b.ls.take (j + 1)) A H = cntB (b.ls.take j) A H + (if v then 1 else 0) → ([some (.sh, b.t), some (m.fl, .lst (bL A)), some (m'.fl, .lst (bL H)), vi (if v then (cntB (b.ls.take j) A H : Int) + 1 else cntB (b.ls.take j) A H), none, none, none] : En) = [some (.sh, b.t), some (m.fl, .lst (bL A)), some (m'.fl, .lst (bL H)), vi (cntB (b.ls.take (j + 1)) A H), none, none, none] := fun v e => by
        rw [e]; cases v <;> simp
      cases lk with
      | true =>
        have hnext : cntB (b.ls.take (j + 1)) A H = cntB (b.ls.take j) A H + if A.getD w false then 1 else 0 := hnext
        refine ⟨rfl, fun _ => ⟨_, bL_at (by rw [ha]; exact lw), ?_⟩, fun z => absurd rfl z⟩
        generalize A.getD w false = v at hnext
        cases v with
        | true => exact ⟨fun _ => fin true hnext, nofun⟩
        | false => exact ⟨nofun, fun _ => ⟨fun z => absurd (show (1 : Int) = 0 from z) (by decide), fun _ => fin false hnext⟩⟩
      | false =>
        have hnext : cntB (b.ls.take (j + 1)) A H = cntB (b.ls.take j) A H + if H.getD w false then 1 else 0 := hnext
        refine ⟨rfl, fun z => absurd (show (0 : Int) = 1 from z) (by decide), fun _ => ⟨fun _ => ⟨_, bL_at (by rw [hh]; exact lw), ?_⟩, fun z => absurd rfl z⟩⟩
        generalize H.getD w false = v at hnext
        cases v with
        | true => exact ⟨fun _ => fin true hnext, nofun⟩
        | false => exact ⟨nofun, fun _ => fin false hnext⟩
    · rintro e rfl
      rw [List.length_map, List.take_length]
      refine ⟨_, h1, _, rfl, _, rfl, _, e1, _, h2, (look_none _ _).1, _, e2, ?_⟩
      have : enB b A H = decide (b.u.wants (b.ls.map Li.t).length ≤ (cntB b.ls A H : Int)) := by rw [hN]; rfl
      rw [this]
      rcases em with rfl | rfl <;> rcases em' with rfl | rfl <;> exact ⟨_, rfl, rfl⟩
  exact go m m' (md2 hm) (md2 hm')
theorem mult_bl {n : Nat} (v : Bool) (h : n ≤ 1000) : binT .Mult (.lst [.bl v]) (.int n) = some (.own (.lst (bL (List.replicate n v)))) := by
  show (if 0 ≤ (n : Int) ∧ (n : Int) ≤ 1000000 ∧ 1 * (n : Int).toNat ≤ LIM then some (Out.own (.lst (List.replicate (n : Int).toNat [T.bl v]).flatten)) else none) = _
  rw [if_pos ⟨by omega, by omega, len_le (by omega)⟩, show (n : Int).toNat = n by omega]
  have : (List.replicate n [T.bl v]).flatten = bL (List.replicate n v) := by
    show _ = (List.replicate n v).map T.bl
    rw [List.map_replicate]
    simp
  rw [this]
def S_falling (Φ : Ft) : Prop := ∃ r, Φ.fn "falling" = some ⟨[.rd, .rd], r⟩ ∧ ∀ (bs : List Be) (A : List Bool) (m : Md), (∀ b ∈ bs, b.Ok bs.length) → bs.length ≤ 1000 → A.length = bs.length → m ≠ .io →
  r [.sh, m] [chT bs, .lst (bL A)] = .ok (.own (.lst (bL (fallB bs A)))) [chT bs, .lst (bL A)]
theorem p_falling {Φ0 Φ : Ft} (h : Φ.fn "falling" = some (Df.fn Φ0 c_falling)) (H1 : S_has_enough Φ0) : S_falling Φ := by
  obtain ⟨r1, h1, q1⟩ := H1
  refine ⟨_, h, fun bs A m hb hl ha hm => ?_⟩
  have go : ∀ (m : Md), m = .sh ∨ m = .bor → runDf Φ0 c_falling [.sh, m] [chT bs, .lst (bL A)] = .ok (.own (.lst (bL (fallB bs A)))) [chT bs, .lst (bL A)] := by
    intro m em
    have em0 : binT .Mult (.lst [.bl false]) (.int (bs.map Be.t).length) = some (.own (.lst (bL (List.replicate bs.length false)))) := by rw [List.length_map]; exact mult_bl false hl
    rcases em with rfl | rfl
    all_goals
      refine run_rule ⟨rfl, rfl⟩ ⟨.own (.lst (bL (List.replicate bs.length false))), em0, (bs.map Be.t, []), rfl, ?_⟩
      refine for_rule (fun j e => e = [some (.sh, chT bs), some (Md.fl _, .lst (bL A)), oL (bL (itB bs A j)), none, none]) rfl ?_ ?_
      · rintro j t e ht rfl
        refine ⟨(bs.map Be.t, []), rfl, ?_⟩
        refine lc_rule (bL (itB bs A (j + 1))) ⟨⟨by simp [itB_len], len_le (by simp; omega)⟩, fun i t u e1 e2 => ?_, ?_⟩
        · rw [List.getElem?_map] at e1
          obtain ⟨b, hbi, rfl⟩ := Option.map_eq_some_iff.mp e1
          have e2 : ((bs.map fun b => enB b A (itB bs A j)).map T.bl)[i]? = some u := e2
          rw [List.getElem?_map, List.getElem?_map, hbi] at e2
          cases e2
          exact ⟨_, h1, _, q1 b bs.length A (itB bs A j) _ _ (hb b (List.mem_of_getElem? hbi)) ha (itB_len j) nofun nofun, rfl, rfl⟩
        · rfl
      · rintro e rfl
        refine ⟨_, rfl, ?_⟩
        show FRes.ok (.own (.lst (bL (itB bs A (bs.map Be.t).length)))) _ = _
        rw [List.length_map]
        rfl
  rcases md2 hm with rfl | rfl
  · exact go _ (.inl rfl)
  · exact go _ (.inr rfl)
theorem fm_congr {α β : Type} {f g : α → Option β} : ∀ {xs : List α}, (∀ x ∈ xs, f x = g x) → xs.filterMap f = xs.filterMap g
  | [], _ => rfl
  | x :: xs, h => by
    rw [List.filterMap_cons, List.filterMap_cons, h x List.mem_cons_self, fm_congr fun y hy => h y (List.mem_cons_of_mem _ hy)]
/-- the names of those that don't fall -/
def namesOf (bs : List Be) (H : List Bool) : List Str := (bs.zip H).filterMap fun p => if p.2 then none else some p.1.nm
abbrev waitL (bs : List Be) : List Str := namesOf bs (hereB bs 1)
def S_waiting (Φ : Ft) : Prop := ∃ r, Φ.fn "waiting" = some ⟨[.rd], r⟩ ∧ ∀ (bs : List Be), (∀ b ∈ bs, b.Ok bs.length) → bs.length ≤ 1000 →
  r [.sh] [chT bs] = .ok (.own (.lst (sL (waitL bs)))) [chT bs]
theorem p_waiting {Φ0 Φ : Ft} (h : Φ.fn "waiting" = some (Df.fn Φ0 c_waiting)) (H1 : S_falling Φ0) : S_waiting Φ := by
  obtain ⟨r1, h1, q1⟩ := H1
  refine ⟨_, h, fun bs hb hl => run_rule ⟨rfl, rfl⟩ ?_⟩
  have em0 : binT .Mult (.lst [.bl true]) (.int (bs.map Be.t).length) = some (.own (.lst (bL (List.replicate bs.length true)))) := by rw [List.length_map]; exact mult_bl true hl
  refine ⟨_, h1, .own (.lst (bL (List.replicate bs.length true))), em0, _, q1 bs _ .sh hb hl (by simp) nofun, rfl, _, rfl, ?_⟩
  refine lcf_rule ((bs.zip (hereB bs 1)).map fun p => if p.2 then none else some (.str p.1.nm)) ⟨⟨by simp [enumT, hereB_len], len_le (by simp [enumT]; omega)⟩, fun j t u e1 e2 => ?_, ?_⟩
  · obtain ⟨t, ht, rfl⟩ := enumT_get e1
    have ht : (bs.map Be.t)[j]? = some t := ht
    rw [List.getElem?_map] at ht
    obtain ⟨b, hbj, rfl⟩ := Option.map_eq_some_iff.mp ht
    have hj : j < bs.length := (List.getElem?_eq_some_iff.mp hbj).1
    have hj2 : j < (hereB bs 1).length := by rw [hereB_len]; exact hj
    rw [List.getElem?_map, (List.getElem?_zip_eq_some (z := (b, (hereB bs 1)[j]))).mpr ⟨hbj, List.getElem?_eq_getElem hj2⟩] at e2
    cases e2
    have g1 : (hereB bs 1).getD j false = (hereB bs 1)[j] := by rw [List.getD_eq_getElem?_getD, List.getElem?_eq_getElem hj2]; rfl
    refine ⟨rfl, .bl (hereB bs 1)[j], (bL_at (A := hereB bs 1) hj2).trans (by rw [g1]), ?_⟩
    cases (hereB bs 1)[j] with
    | true => exact ⟨fun _ => ⟨rfl, rfl⟩, nofun⟩
    | false => exact ⟨nofun, fun _ => ⟨_, rfl, rfl, rfl⟩⟩
  · refine ⟨_, rfl, ?_⟩
    have : ((bs.zip (hereB bs 1)).map fun p => if p.2 then none else some (T.str p.1.nm)).filterMap id = sL (waitL bs) := by
      unfold sL waitL namesOf
      rw [List.filterMap_map, List.map_filterMap]
      refine fm_congr fun p _ => ?_
      show (if p.2 then none else some (T.str p.1.nm)) = _
      cases p.2 <;> rfl
    rw [this]
/-- the first number whose stroke never falls, up to j -/
def stopL (bs : List Be) : Nat → List (Option Int)
  | 0 => List.replicate bs.length none
  | j + 1 => List.zipWith (fun s h => if s.isNone && !h then some ((j : Int) + 1) else s) (stopL bs j) (hereB bs (j + 1))
theorem stopL_len {bs : List Be} : ∀ j, (stopL bs j).length = bs.length
  | 0 => by simp [stopL]
  | j + 1 => by simp [stopL, stopL_len j, hereB_len]
theorem stopL_at {bs : List Be} {j k : Nat} (hk : k < bs.length) : (stopL bs (j + 1)).getD k none = if ((stopL bs j).getD k none).isNone && !(hereB bs (j + 1)).getD k false then some ((j : Int) + 1) else (stopL bs j).getD k none := by
  show (List.zipWith _ (stopL bs j) (hereB bs (j + 1))).getD k none = _
  rw [List.getD_eq_getElem?_getD, List.getD_eq_getElem?_getD, List.getD_eq_getElem?_getD, List.getElem?_zipWith, List.getElem?_eq_getElem (show k < (stopL bs j).length by rw [stopL_len]; exact hk), List.getElem?_eq_getElem (show k < (hereB bs (j + 1)).length by rw [hereB_len]; exact hk)]
  rfl
def S_stops (Φ : Ft) : Prop := ∃ r, Φ.fn "stops" = some ⟨[.rd], r⟩ ∧ ∀ (bs : List Be), (∀ b ∈ bs, b.Ok bs.length) → bs.length ≤ 1000 →
  r [.sh] [chT bs] = .ok (.own (.lst (btT (stopL bs bs.length)))) [chT bs]
theorem getD_ext {α : Type} {d : α} {xs ys : List α} (h : xs.length = ys.length) (e : ∀ k, k < xs.length → xs.getD k d = ys.getD k d) : xs = ys := by
  refine List.ext_getElem h fun k a b => ?_
  have := e k a
  rw [List.getD_eq_getElem?_getD, List.getD_eq_getElem?_getD, List.getElem?_eq_getElem a, List.getElem?_eq_getElem b] at this
  exact this
/-- the row half made -/
def half (bs : List Be) (j i : Nat) : List (Option Int) := (stopL bs (j + 1)).take i ++ (stopL bs j).drop i
theorem half_at {bs : List Be} {j i k : Nat} (hk : k < bs.length) : (half bs j i).getD k none = if k < i then (stopL bs (j + 1)).getD k none else (stopL bs j).getD k none := by
  unfold half
  rw [List.getD_eq_getElem?_getD, List.getElem?_append, List.length_take, stopL_len]
  by_cases h : k < i
  · rw [if_pos (by omega), if_pos h, List.getElem?_take, if_pos h, List.getD_eq_getElem?_getD]
  · rw [if_neg (by omega), if_neg h, List.getElem?_drop, List.getD_eq_getElem?_getD]
    by_cases q : i ≤ bs.length
    · rw [Nat.min_eq_left q, show i + (k - i) = k by omega]
    · omega
theorem half_len {bs : List Be} {j i : Nat} : (half bs j i).length = bs.length := by
  unfold half
  rw [List.length_append, List.length_take, List.length_drop, stopL_len, stopL_len]
  omega
theorem half_0 {bs : List Be} {j : Nat} : half bs j 0 = stopL bs j := by simp [half]
theorem half_n {bs : List Be} {j : Nat} : half bs j bs.length = stopL bs (j + 1) := by
  unfold half
  rw [List.take_of_length_le (by rw [stopL_len]; exact Nat.le_refl _), List.drop_of_length_le (by rw [stopL_len]; exact Nat.le_refl _), List.append_nil]
theorem p_stops {Φ0 Φ : Ft} (h : Φ.fn "stops" = some (Df.fn Φ0 c_stops)) (H1 : S_falling Φ0) : S_stops Φ := by
  obtain ⟨r1, h1, q1⟩ := H1
  refine ⟨_, h, fun bs hb hl => run_rule ⟨rfl, rfl⟩ ?_⟩
  have em0 : binT .Mult (.lst [.bl true]) (.int (bs.map Be.t).length) = some (.own (.lst (bL (List.replicate bs.length true)))) := by rw [List.length_map]; exact mult_bl true hl
  have em1 : binT .Mult (.lst [.non]) (.int (bs.map Be.t).length) = some (.own (.lst (btT (List.replicate bs.length none)))) := by rw [List.length_map]; exact mult_non hl
  have hN : (bs.map Be.t).length = bs.length := List.length_map _
  refine ⟨.own (.lst (btT (List.replicate bs.length none))), em1, .own (.lst (bL (List.replicate bs.length true))), em0, ⟨okR_of (by omega) (by omega), okR_of (by omega) (by rw [hN]; omega)⟩, ?_⟩
  refine for_rule (fun j e => e = [some (.sh, chT bs), oL (btT (stopL bs j)), oL (bL (hereB bs j)), none, none]) rfl ?_ ?_
  · rintro j t e ht rfl
    obtain ⟨rfl, hj⟩ := range_at ht
    rw [hN] at hj
    refine ⟨_, h1, _, q1 bs (hereB bs j) .bor hb hl (hereB_len j) nofun, okR_of (by omega) (by rw [hN]; omega), ?_⟩
    refine for_rule (fun i e => e = [some (.sh, chT bs), oL (btT (half bs j i)), oL (bL (hereB bs (j + 1))), vi (1 + j), none]) (by rw [half_0]; rfl) ?_ ?_
    · rintro i t e ht rfl
      obtain ⟨rfl, hi⟩ := range_at ht
      rw [hN] at hi
      have hi : i < bs.length := by omega
      rw [show (0 : Int) + (i : Int) = i by omega]
      have ga : (half bs j i).getD i none = (stopL bs j).getD i none := by rw [half_at hi, if_neg (by omega)]
      have gb := stopL_at (bs := bs) (j := j) hi
      have keep : (stopL bs (j + 1)).getD i none = (stopL bs j).getD i none → half bs j (i + 1) = half bs j i := fun e => by
        refine getD_ext (d := none) (by rw [half_len, half_len]) fun k hk => ?_
        rw [half_len] at hk
        rw [half_at hk, half_at hk]
        by_cases q : k = i
        · subst q; rw [if_pos (by omega), if_neg (by omega), e]
        · by_cases q2 : k < i
          · rw [if_pos (by omega), if_pos q2]
          · rw [if_neg (by omega), if_neg q2]
      have put : (stopL bs (j + 1)).getD i none = some ((j : Int) + 1) → half bs j (i + 1) = (half bs j i).set i (some (1 + j)) := fun e => by
        refine getD_ext (d := none) (by rw [half_len, List.length_set, half_len]) fun k hk => ?_
        rw [half_len] at hk
        rw [half_at hk, getD_set (by rw [half_len]; exact hi), half_at hk]
        by_cases q : i = k
        · subst q; rw [if_pos (by omega), if_pos rfl, e, Int.add_comm]
        · rw [if_neg q]
          by_cases q2 : k < i
          · rw [if_pos (by omega), if_pos q2]
          · rw [if_neg (by omega), if_neg q2]
      refine ⟨_, btT_at (by rw [half_len]; exact hi), ?_⟩
      rw [ga]
      cases hs : (stopL bs j).getD i none with
      | some v =>
        rw [hs] at gb
        show _ = _
        rw [keep (by rw [hs]; exact gb)]
      | none =>
        rw [hs] at gb
        refine ⟨_, bL_at (by rw [hereB_len]; exact hi), ?_⟩
        cases hh : (hereB bs (j + 1)).getD i false with
        | true =>
          rw [hh] at gb
          refine ⟨fun _ => ?_, nofun⟩
          show _ = _
          rw [keep (by rw [hs]; exact gb)]
        | false =>
          rw [hh] at gb
          refine ⟨nofun, fun _ => ⟨_, btT_set (by rw [half_len]; exact hi), ?_⟩⟩
          show _ = _
          rw [put gb]
    · rintro e rfl
      show _ = _
      rw [show (rangeT 0 ((bs.map Be.t).length : Int)).length = bs.length by simp [rangeT], half_n]
  · rintro e rfl
    refine ⟨_, rfl, ?_⟩
    have : (rangeT 1 (((bs.map Be.t).length : Int) + 1)).length = bs.length := by simp [rangeT]
    show FRes.ok (.own (.lst (btT (stopL bs (rangeT 1 (((bs.map Be.t).length : Int) + 1)).length)))) _ = _
    rw [this]
end VL

set_option maxHeartbeats 4000000
namespace VL
open PySem PySem.Spec PyProof.Rows L2
theorem cmp_is (i : Int) (s : Str) (h : PyData.strOk s = true) : cmpT .Eq (.int i) (.str s) = some false := by
  refine (cmp_eq datT_int (by unfold datT; exact h) (v := false) ?_ nofun).1
  unfold eqT toPD
  simp [PyData.eqv]
def S__law_wants (Φ : Ft) : Prop := ∃ r, Φ.fn "_law_wants" = some ⟨[.rd], r⟩ ∧ ∀ (b : Be) (n : Nat), b.Ok n → r [.sh] [b.t] = .ok (.val (.int (b.u.wants b.ls.length))) [b.t]
theorem p__law_wants {Φ0 Φ : Ft} (h : Φ.fn "_law_wants" = some (Df.fn Φ0 c__law_wants)) : S__law_wants Φ := by
  refine ⟨_, h, fun b n hb => run_rule ⟨rfl, rfl⟩ ?_⟩
  obtain ⟨nm, st, u, ls⟩ := b
  have hN : (((ls.map Li.t).length : Nat) : Int) = ls.length := by rw [List.length_map]
  cases u with
  | all =>
    refine ⟨_, rfl, fun _ => ⟨_, rfl, _, rfl, ?_⟩, fun z => absurd rfl z⟩
    show FRes.ok (.val (.int ((ls.map Li.t).length : Nat))) _ = FRes.ok (.val (.int ls.length)) _
    rw [hN]
  | any => exact ⟨_, rfl, fun z => absurd z (by decide), fun _ => ⟨_, rfl, fun _ => ⟨_, rfl, rfl⟩, fun z => absurd rfl z⟩⟩
  | num k => exact ⟨_, rfl, _, cmp_is k _ (by decide +kernel), nofun, fun _ => ⟨_, rfl, _, cmp_is k _ (by decide +kernel), nofun, fun _ => ⟨_, rfl, _, rfl, rfl⟩⟩⟩
theorem flat_iL (xs : List Int) : (iL xs).all flatT = true := by
  rw [List.all_eq_true]
  intro t ht
  obtain ⟨b, _, rfl⟩ := List.mem_map.mp ht
  rfl
theorem inT_ints (s : Int) (xs : List Int) : inT (.int s) (iL xs) = decide (s ∈ xs) := by
  unfold inT
  rw [List.any_map]
  rw [Bool.eq_iff_iff, List.any_eq_true, decide_eq_true_iff]
  constructor
  · rintro ⟨x, hx, e⟩
    have : eqT (.int x) (.int s) = true := e
    rw [intEq] at this
    rw [← of_decide_eq_true this]; exact hx
  · intro hx
    refine ⟨s, hx, ?_⟩
    show eqT (.int s) (.int s) = true
    rw [intEq]; exact decide_eq_true rfl
theorem in_ints (s : Int) (xs : List Int) : cmpT .In (.int s) (.lst (iL xs)) = some (decide (s ∈ xs)) := by
  show (if flatT (.int s) && (iL xs).all flatT then some (inT (.int s) (iL xs)) else none) = _
  rw [flat_iL, ← inT_ints]
  rfl
theorem notin_ints (s : Int) (xs : List Int) : cmpT .NotIn (.int s) (.lst (iL xs)) = some (!decide (s ∈ xs)) := by
  show (if flatT (.int s) && (iL xs).all flatT then some (!inT (.int s) (iL xs)) else none) = _
  rw [flat_iL, ← inT_ints]
  rfl
theorem eqT_bl {a b : Bool} : eqT (.bl a) (.bl b) = decide (a = b) := by
  unfold eqT toPD
  simp only [PyData.eqv]
  cases a <;> cases b <;> rfl
theorem datT_bl {d : Nat} {b : Bool} : datT d (.bl b) = true := by cases d <;> (unfold datT; rfl)
theorem cmp_bL (xs ys : List Bool) : cmpT .Eq (.lst (bL xs)) (.lst (bL ys)) = some (decide (xs = ys)) ∧ cmpT .NotEq (.lst (bL xs)) (.lst (bL ys)) = some (!decide (xs = ys)) := cmp_map (fun _ _ => eqT_bl) (fun _ => datT_bl) xs ys
theorem cmp_sL {xs ys : List Str} (h : ∀ s ∈ xs, NmOk 8 s) (h' : ∀ s ∈ ys, NmOk 8 s) : cmpT .Eq (.lst (sL xs)) (.lst (sL ys)) = some (decide (xs = ys)) ∧ cmpT .NotEq (.lst (sL xs)) (.lst (sL ys)) = some (!decide (xs = ys)) := by
  have dt : ∀ {zs : List Str}, (∀ s ∈ zs, NmOk 8 s) → datT 60 (.lst (sL zs)) = true := fun {zs} hz => datT_lst (datTL_all fun t ht => by
    obtain ⟨s, hs, rfl⟩ := List.mem_map.mp ht
    unfold datT
    exact (hz s hs).2)
  exact cmp_eq (dt h) (dt h') (eqT_lst.trans (eqTL_map (fun _ _ => eqT_str) xs ys)) nofun
theorem names_in {bs : List Be} {H : List Bool} {s : Str} (h : s ∈ namesOf bs H) : ∃ b ∈ bs, b.nm = s := by
  obtain ⟨⟨b, v⟩, hm, he⟩ := List.mem_filterMap.mp h
  cases v with
  | true => cases he
  | false => exact ⟨b, (List.of_mem_zip hm).1, Option.some.inj he⟩
theorem ChOk.names {bs : List Be} {n : Nat} {z : Bool} (h : ChOk n z bs) {H : List Bool} : ∀ s ∈ namesOf bs H, NmOk 8 s := fun s hs => by
  obtain ⟨b, hb, rfl⟩ := names_in hs
  exact h.nm b hb
/-! ### when bells stop -/
theorem stop_in {bs : List Be} : ∀ (j k : Nat) (v : Int), (stopL bs j).getD k none = some v → 1 ≤ v ∧ v ≤ j
  | 0, k, v, h => by
    rw [List.getD_eq_getElem?_getD] at h
    unfold stopL at h
    rw [List.getElem?_replicate] at h
    split at h <;> cases h
  | j + 1, k, v, h => by
    by_cases hk : k < bs.length
    · rw [stopL_at hk] at h
      split at h
      · cases h; exact ⟨by omega, by omega⟩
      · have := stop_in j k v h; omega
    · rw [List.getD_eq_getElem?_getD, List.getElem?_eq_none (by rw [stopL_len]; omega)] at h
      cases h
theorem stop_iff {bs : List Be} {k : Nat} (hk : k < bs.length) : ∀ (j i : Nat), i ≤ j → ((hereB bs i).getD k false = false ↔ ∃ v, (stopL bs j).getD k none = some v ∧ v ≤ i)
  | 0, i, hi => by
    have : i = 0 := by omega
    subst this
    constructor
    · intro h
      unfold hereB at h
      rw [List.getD_eq_getElem?_getD, List.getElem?_replicate, if_pos hk] at h
      cases h
    · rintro ⟨v, h, hv⟩
      have := stop_in 0 k v h
      omega
  | j + 1, i, hi => by
    have IH := stop_iff (bs := bs) (k := k) hk j
    rw [stopL_at hk]
    cases hs : (stopL bs j).getD k none with
    | some v =>
      show _ ↔ ∃ v', some v = some v' ∧ v' ≤ (i : Int)
      have vb := stop_in j k v hs
      by_cases hij : i ≤ j
      · rw [IH i hij, hs]
      · have hi2 : i = j + 1 := by omega
        subst hi2
        refine ⟨fun _ => ⟨v, rfl, by omega⟩, fun _ => ?_⟩
        have := (IH j (Nat.le_refl _)).mpr ⟨v, hs, by omega⟩
        cases hc : (hereB bs (j + 1)).getD k false with
        | false => rfl
        | true => rw [here_down j k hc] at this; cases this
    | none =>
      have up : ∀ i, i ≤ j → (hereB bs i).getD k false = true := fun i hij => by
        cases hc : (hereB bs i).getD k false with
        | true => rfl
        | false =>
          obtain ⟨v, hv, _⟩ := (IH i hij).mp hc
          rw [hs] at hv; cases hv
      cases hc : (hereB bs (j + 1)).getD k false with
      | true =>
        show _ ↔ ∃ v', (none : Option Int) = some v' ∧ _
        refine ⟨fun h => ?_, fun ⟨v, h, _⟩ => by cases h⟩
        by_cases hij : i ≤ j
        · rw [up i hij] at h; cases h
        · have hi2 : i = j + 1 := by omega
          subst hi2
          rw [hc] at h; cases h
      | false =>
        show _ ↔ ∃ v', some ((j : Int) + 1) = some v' ∧ v' ≤ (i : Int)
        by_cases hij : i ≤ j
        · rw [up i hij]
          exact ⟨nofun, fun ⟨v, h, hv⟩ => by cases h; omega⟩
        · have hi2 : i = j + 1 := by omega
          subst hi2
          exact ⟨fun _ => ⟨_, rfl, by omega⟩, fun _ => hc⟩
theorem stop_at {bs : List Be} {k : Nat} (hk : k < bs.length) (i : Nat) : (hereB bs i).getD k false = false ↔ ∃ v, (stopL bs bs.length).getD k none = some v ∧ v ≤ i := by
  by_cases h : i ≤ bs.length
  · exact stop_iff hk _ i h
  · rw [here_last (by omega), stop_iff hk _ bs.length (Nat.le_refl _)]
    refine ⟨fun ⟨v, e, hv⟩ => ⟨v, e, by omega⟩, fun ⟨v, e, hv⟩ => ⟨v, e, (stop_in _ k v e).2⟩⟩
end VL

set_option maxHeartbeats 4000000
namespace VL
open PySem PySem.Spec PyProof.Rows L2
/-! ### names drawn by parts -/
def letterOf (d : Int) : Str := ⟨#[letters.cps.toList.getD d.toNat 0]⟩
theorem letter_at {d : Int} (h0 : 0 ≤ d) (h1 : d < 26) : ixT (.str letters) (.int d) = some (.str (letterOf d)) ∧ NmOk 1 (letterOf d) := by
  have e : ixT (.str letters) (.int d) = if letters.length ≤ LIM then (atI letters.cps.toList d).map fun c => .str ⟨#[c]⟩ else none := rfl
  have hl : letters.length = 26 := by decide +kernel
  have hl2 : letters.cps.toList.length = 26 := by decide +kernel
  have ha : ∀ c ∈ letters.cps.toList, PyData.strOk ⟨#[c]⟩ = true := by decide +kernel
  have hd : d.toNat < letters.cps.toList.length := by omega
  have hg : letters.cps.toList.getD d.toNat 0 = letters.cps.toList[d.toNat] := by rw [List.getD_eq_getElem?_getD, List.getElem?_eq_getElem hd]; rfl
  refine ⟨?_, Nat.le_refl _, ?_⟩
  · rw [e, if_pos (by rw [hl]; exact len_le (by decide)), atI_nat (x := letters.cps.toList[d.toNat]) h0 (List.getElem?_eq_getElem hd)]
    unfold letterOf
    rw [hg]
    rfl
  · unfold letterOf
    rw [hg]
    exact ha _ (List.getElem_mem _)
theorem strsT_sL : ∀ ys : List Str, strsT (sL ys) = some ys
  | [] => rfl
  | y :: ys => by
    show (strsT (sL ys)).map _ = _
    rw [strsT_sL ys]
    rfl
theorem glue_go : ∀ (ps : List Str) (acc : Array Nat), (∀ p ∈ ps, NmOk 1 p) → acc.all (· < 0x110000) = true →
    (List.foldl (fun acc p => acc ++ (Str.ofString "").cps ++ p.cps) acc ps).size ≤ acc.size + ps.length ∧ (List.foldl (fun acc (p : Str) => acc ++ (Str.ofString "").cps ++ p.cps) acc ps).all (· < 0x110000) = true
  | [], acc, _, ha => ⟨Nat.le_refl _, ha⟩
  | p :: ps, acc, h, ha => by
    have hp := h p List.mem_cons_self
    have he : (Str.ofString "").cps = #[] := by decide +kernel
    have h1 : p.cps.size ≤ 1 := hp.1
    have h2 : p.cps.all (· < 0x110000) = true := hp.2
    have ih := glue_go ps (acc ++ (Str.ofString "").cps ++ p.cps) (fun q hq => h q (List.mem_cons_of_mem _ hq)) (by rw [he, Array.append_empty, Array.all_append, ha, h2]; rfl)
    rw [List.foldl_cons]
    refine ⟨Nat.le_trans ih.1 ?_, ih.2⟩
    rw [he, Array.append_empty, Array.size_append, List.length_cons]
    omega
theorem join_nm {ys : List Str} (h : ∀ y ∈ ys, NmOk 1 y) : NmOk ys.length (Txt.join "" ys) := by
  show (Builtin.Str.glued _ ys).cps.size ≤ _ ∧ (Builtin.Str.glued _ ys).cps.all (· < 0x110000) = true
  unfold Builtin.Str.glued
  cases ys with
  | nil => exact ⟨by decide +kernel, by decide +kernel⟩
  | cons y ys =>
    have hy := h y List.mem_cons_self
    have h1 : y.cps.size ≤ 1 := hy.1
    have := glue_go ys y.cps (fun q hq => h q (List.mem_cons_of_mem _ hq)) hy.2
    refine ⟨Nat.le_trans this.1 ?_, this.2⟩
    rw [List.length_cons]
    omega
theorem sum_len : ∀ {ys : List Str}, (∀ y ∈ ys, NmOk 1 y) → (ys.map (·.length)).sum ≤ ys.length
  | [], _ => Nat.le_refl _
  | y :: ys, h => by
    have := sum_len (ys := ys) fun q hq => h q (List.mem_cons_of_mem _ hq)
    have := (h y List.mem_cons_self).1
    rw [List.map_cons, List.sum_cons, List.length_cons]
    omega
theorem join_ok {ys : List Str} (h : ∀ y ∈ ys, NmOk 1 y) (hl : ys.length ≤ 1000) : methT .join (.str "") [.lst (sL ys)] = some (.val (.str (Txt.join "" ys))) := by
  show (strsT (sL ys)).bind _ = _
  rw [strsT_sL]
  show (if (ys.map (·.length)).sum + ys.length * (Str.ofString "").length ≤ LIM then _ else _) = _
  have h0 : (Str.ofString "").length = 0 := by decide +kernel
  have := sum_len h
  rw [h0, if_pos (len_le (by omega))]
theorem cut_mid {α : Type} {xs : List α} {a b : Nat} (h : a ≤ xs.length) (hb : b ≤ xs.length) : cutT xs (some (a : Int)) (some (b : Int)) = (xs.drop a).take (b - a) := by
  unfold cutT HT.sIx
  simp only
  rw [if_neg (by omega), if_neg (by omega), show (a : Int).toNat = a by omega, show (b : Int).toNat = b by omega, Nat.min_eq_left h, Nat.min_eq_left hb]
theorem cut_iL {xs : List Int} {a b : Nat} (h : a ≤ xs.length) (hb : b ≤ xs.length) : slT (.lst (iL xs)) (some (a : Int)) (some (b : Int)) = some (.own (.lst (iL ((xs.drop a).take (b - a))))) := by
  show some (Out.own (.lst (cutT (iL xs) (some (a : Int)) (some (b : Int))))) = _
  rw [cut_mid (by rw [List.length_map]; exact h) (by rw [List.length_map]; exact hb), ← List.map_drop, ← List.map_take]
/-- cuts of a text -/
def cutS (s : Str) (lo hi : Option Int) : Str := ⟨(cutT s.cps.toList lo hi).toArray⟩
theorem cutS_len {s : Str} {lo hi : Option Int} : (cutS s lo hi).length = (cutT s.cps.toList lo hi).length := by
  show (List.toArray _).size = _
  rw [List.size_toArray]
theorem cutS_ok {s : Str} (h : PyData.strOk s = true) {lo hi : Option Int} : PyData.strOk (cutS s lo hi) = true := by
  show (List.toArray _).all (· < 0x110000) = true
  rw [List.all_toArray, List.all_eq_true]
  intro x hx
  have h : s.cps.all (· < 0x110000) = true := h
  rw [← Array.all_toList, List.all_eq_true] at h
  unfold cutT at hx
  exact h x (List.mem_of_mem_drop (List.mem_of_mem_take hx))
theorem len_cps (s : Str) : s.cps.toList.length = s.length := by
  show _ = s.cps.size
  rw [Array.length_toList]
theorem cutS_hi {s : Str} {k : Int} (h : 0 ≤ k) : (cutS s none (some k)).length = min k.toNat s.length := by
  rw [cutS_len]
  unfold cutT HT.sIx
  simp only
  rw [if_neg (by omega)]
  simp
  rfl
theorem cutS_lo {s : Str} {k : Int} (h : 0 ≤ k) : (cutS s (some k) none).length = s.length - min k.toNat s.length := by
  rw [cutS_len]
  unfold cutT HT.sIx
  simp only
  rw [if_neg (by omega)]
  simp
  rfl
theorem sl_str {s : Str} {lo hi : Option Int} (h : s.length ≤ 1000000) : slT (.str s) lo hi = some (.val (.str (cutS s lo hi))) := if_pos (len_le h)
/-- all signs small letters -/
def Lt (s : Str) : Prop := ∀ c ∈ s.cps.toList, c ∈ letters.cps.toList
theorem Lt.app {a b : Str} (h : Lt a) (g : Lt b) : Lt (a ++ b) := by
  intro c hc
  have hc : c ∈ (a.cps ++ b.cps).toList := hc
  rw [Array.toList_append] at hc
  exact (List.mem_append.mp hc).elim (h c) (g c)
theorem Lt.cut {s : Str} (h : Lt s) {lo hi : Option Int} : Lt (cutS s lo hi) := by
  intro c hc
  have hc : c ∈ cutT s.cps.toList lo hi := hc
  unfold cutT at hc
  exact h c (List.mem_of_mem_drop (List.mem_of_mem_take hc))
theorem lt_letter {d : Int} (h0 : 0 ≤ d) (h1 : d < 26) : Lt (letterOf d) := by
  intro c hc
  have hc : c ∈ [letters.cps.toList.getD d.toNat 0] := hc
  rw [List.mem_singleton.mp hc]
  have hl2 : letters.cps.toList.length = 26 := by decide +kernel
  rw [List.getD_eq_getElem?_getD, List.getElem?_eq_getElem (by omega)]
  exact List.getElem_mem _
theorem join_cps (ys : List Str) : (Txt.join "" ys).cps.toList = (ys.map fun y => y.cps.toList).flatten := by
  have he : (Str.ofString "").cps = #[] := by decide +kernel
  have go : ∀ (ps : List Str) (acc : Array Nat), (List.foldl (fun acc (p : Str) => acc ++ (Str.ofString "").cps ++ p.cps) acc ps).toList = acc.toList ++ (ps.map fun y => y.cps.toList).flatten := by
    intro ps
    induction ps with
    | nil => intro acc; simp
    | cons p ps ih =>
      intro acc
      rw [List.foldl_cons, ih, he, Array.append_empty, Array.toList_append, List.map_cons, List.flatten_cons, List.append_assoc]
  show (Builtin.Str.glued _ ys).cps.toList = _
  unfold Builtin.Str.glued
  cases ys with
  | nil => decide +kernel
  | cons y ys => exact go ys y.cps
theorem join_word {ds : List Int} (h : ∀ d ∈ ds, 0 ≤ d ∧ d < 26) : Lt (Txt.join "" (ds.map letterOf)) ∧ (Txt.join "" (ds.map letterOf)).length = ds.length := by
  have hj := join_cps (ds.map letterOf)
  constructor
  · intro c hc
    rw [hj] at hc
    obtain ⟨l, hl, hc⟩ := List.mem_flatten.mp hc
    obtain ⟨y, hy, rfl⟩ := List.mem_map.mp hl
    obtain ⟨d, hd, rfl⟩ := List.mem_map.mp hy
    exact lt_letter (h d hd).1 (h d hd).2 c hc
  · rw [← len_cps, hj]
    clear hj h
    induction ds with
    | nil => rfl
    | cons d ds ih =>
      rw [List.map_cons, List.map_cons, List.flatten_cons, List.length_append, ih, List.length_cons]
      show [letters.cps.toList.getD d.toNat 0].length + _ = _
      simp
      omega
def wordsN : List Str := ["all", "any", "bell", "none"]
/-- a text that may be a bell's name, but for the words taken -/
def Wv (s : Str) : Prop := NmOk 8 s ∧ 1 ≤ s.length ∧ Lt s
def Wn (s : Str) : Prop := Wv s ∧ s ∉ wordsN
/-- a name made unlike all known ones -/
def candN (pre : Str) : List Str := letters.cps.toList.map fun c => pre ++ (⟨#[c]⟩ : Str)
theorem letters_nodup : letters.cps.toList.Nodup := by decide +kernel
theorem candN_nodup (pre : Str) : (candN pre).Nodup := by
  unfold candN
  refine List.Pairwise.map _ (fun a b hab => ?_) letters_nodup
  intro e
  have e : (pre.cps ++ #[a]) = (pre.cps ++ #[b]) := congrArg Str.cps e
  have e2 := congrArg Array.toList e
  rw [Array.toList_append, Array.toList_append] at e2
  have e3 := List.append_cancel_left e2
  have : [a] = [b] := e3
  exact hab (List.cons.inj this).1
theorem candN_ok {pre : Str} (h : NmOk 7 pre) : ∀ s ∈ candN pre, NmOk 8 s := by
  intro s hs
  obtain ⟨c, hc, rfl⟩ := List.mem_map.mp hs
  have ha : ∀ c ∈ letters.cps.toList, PyData.strOk ⟨#[c]⟩ = true := by decide +kernel
  exact h.app (m := 1) ⟨Nat.le_refl 1, ha c hc⟩
theorem candN_wv {pre : Str} (h : NmOk 7 pre) (hl : Lt pre) : ∀ s ∈ candN pre, Wv s := by
  intro s hs
  refine ⟨candN_ok h s hs, ?_⟩
  obtain ⟨c, hc, rfl⟩ := List.mem_map.mp hs
  refine ⟨?_, hl.app fun d hd => ?_⟩
  · rw [str_len]
    show 1 ≤ pre.length + 1
    omega
  · have hd : d ∈ [c] := hd
    rw [List.mem_singleton.mp hd]
    exact hc
theorem freshN {pre : Str} (hp : NmOk 7 pre) (hlt : Lt pre) {seen : List Str} (h : seen.length ≤ 20) : ∃ s r, ((candN pre).filter fun s => !decide (s ∈ seen)) = s :: r ∧ s ∉ seen ∧ Wv s := by
  have hl : (candN pre).length = 26 := by unfold candN; rw [List.length_map]; decide +kernel
  cases e : (candN pre).filter fun s => !decide (s ∈ seen) with
  | nil =>
    rw [List.filter_eq_nil_iff] at e
    have := nodup_len (candN_nodup pre) (ys := seen) fun x hx => by simpa using e x hx
    rw [hl] at this
    omega
  | cons s r =>
    have hm : s ∈ (candN pre).filter fun s => !decide (s ∈ seen) := by rw [e]; exact List.mem_cons_self ..
    rw [List.mem_filter] at hm
    exact ⟨s, r, rfl, by simpa using hm.2, candN_wv hp hlt s hm.1⟩
def nameRs : List Int := (List.replicate 6 (8 :: List.replicate 8 26)).flatten
theorem nameRs_at : ∀ i : Nat, i < 54 → nameRs[i]? = some (if i % 9 = 0 then 8 else 26) := by decide +kernel
theorem nameRs_len : nameRs.length = 54 := by decide +kernel
theorem nameRs_ok : okRs nameRs := ⟨by decide +kernel, by rw [nameRs_len]; decide⟩

theorem name_num {xs : List Int} (h : Below xs nameRs) {i : Nat} (hi : i < 54) : ∃ x, xs[i]? = some x ∧ 0 ≤ x ∧ x < (if i % 9 = 0 then 8 else 26) := by
  have hl : xs.length = 54 := by rw [h.1, nameRs_len]
  have e := List.getElem?_eq_getElem (show i < xs.length by omega)
  exact ⟨_, e, h.2 i _ _ e (nameRs_at i hi)⟩
/-- a cut of the numbers that are letters -/
theorem name_cut {xs : List Int} (h : Below xs nameRs) {a n : Nat} (hn : a % 9 + n ≤ 9) (ha : 0 < a % 9) (hl : a + n ≤ 54) : ∀ d ∈ (xs.drop a).take n, 0 ≤ d ∧ d < 26 := by
  intro d hd
  obtain ⟨j, hj⟩ := List.getElem?_of_mem hd
  have hj2 : j < n := by
    have := (List.getElem?_eq_some_iff.mp hj).1
    rw [List.length_take] at this
    omega
  rw [List.getElem?_take, if_pos hj2, List.getElem?_drop] at hj
  obtain ⟨x, e, h0, h1⟩ := name_num h (i := a + j) (by omega)
  rw [hj] at e
  cases e
  rw [if_neg (by omega)] at h1
  exact ⟨h0, h1⟩
theorem row_eq {xs : List Int} (k : Nat) (a n : Nat) (hn : a + n ≤ 9) : (((xs.drop (9 * k)).take 9).drop a).take n = (xs.drop (9 * k + a)).take n := by
  rw [List.drop_take, List.drop_drop, List.take_take, Nat.min_eq_left (by omega)]
def S__law_names (Φ : Ft) : Prop := ∃ r, Φ.fn "_law_names" = some ⟨[.rd, .rd, .rd], r⟩ ∧ ∀ (ns : List Int) (at' : Nat) (ahead : List Str) (m : Md), at' ≤ 100 → ahead.length ≤ 6 → (∀ s ∈ ahead, NmOk 8 s) → m ≠ .io →
  ∃ nms : List Str, r [.sh, .sh, m] [.scr ns, .int at', .lst (sL ahead)] = .ok (.own (.lst (sL nms))) [.scr ns, .int at', .lst (sL ahead)] ∧ nms.length = 6 ∧ (∀ s ∈ nms, Wn s) ∧ nms.Nodup ∧ ∀ s ∈ nms, s ∉ ahead
theorem p__law_names {Φ0 Φ : Ft} (h : Φ.fn "_law_names" = some (Df.fn Φ0 c__law_names)) (H1 : S__law_part Φ0) (H2 : S__law_cell Φ0) (H3 : S__law_blended Φ0) : S__law_names Φ := by
  obtain ⟨r1, h1, q1⟩ := H1
  obtain ⟨r2, h2, q2⟩ := H2
  obtain ⟨r3, h3, q3⟩ := H3
  refine ⟨_, h, fun ns at' ahead m hat hah haok hm => ?_⟩
  suffices hx : ∃ o outs, runDf Φ0 c__law_names [.sh, .sh, m] [.scr ns, .int at', .lst (sL ahead)] = .ok o outs ∧ ∃ nms : List Str, o = .own (.lst (sL nms)) ∧ outs = [.scr ns, .int at', .lst (sL ahead)] ∧ nms.length = 6 ∧ (∀ s ∈ nms, Wn s) ∧ nms.Nodup ∧ ∀ s ∈ nms, s ∉ ahead by
    obtain ⟨_, _, h1, us, rfl, rfl, h2⟩ := hx; exact ⟨us, h1, h2⟩
  obtain ⟨xs, e1, b1⟩ := q1 ns at' nameRs nameRs_ok (by omega) (by omega)
  have xl : xs.length = 54 := by rw [b1.1, nameRs_len]
  have e2 := q2 ns 0 (by decide)
  have e3 := q2 ns at' (by omega)
  obtain ⟨ys, e4, b4⟩ := q3 (cellI ns at') [3, 3] ⟨by decide +kernel, by decide⟩
  have m1 : binT .Mult (.lst [.int 26]) (.int 8) = some (.own (.lst (iL (List.replicate 8 26)))) := by
    show (if (0 : Int) ≤ 8 ∧ (8 : Int) ≤ 1000000 ∧ [T.int 26].length * (8 : Int).toNat ≤ LIM then some (Out.own (.lst (List.replicate (8 : Int).toNat [T.int 26]).flatten)) else none) = _
    rw [if_pos ⟨by decide, by decide, len_le (by show 1 * 8 ≤ 1000000; decide)⟩]
    rfl
  have m2 : binT .Mult (.lst ([T.int 8] ++ iL (List.replicate 8 26))) (.int 6) = some (.own (.lst (iL nameRs))) := by
    show (if (0 : Int) ≤ 6 ∧ (6 : Int) ≤ 1000000 ∧ ([T.int 8] ++ iL (List.replicate 8 26)).length * (6 : Int).toNat ≤ LIM then some (Out.own (.lst (List.replicate (6 : Int).toNat ([T.int 8] ++ iL (List.replicate 8 26))).flatten)) else none) = _
    rw [if_pos ⟨by decide, by decide, len_le (by show 9 * 6 ≤ 1000000; decide)⟩]
    rfl
  have lets : ∀ ds : List Int, (∀ d ∈ ds, 0 ≤ d ∧ d < 26) → ∀ y ∈ ds.map letterOf, NmOk 1 y := fun ds hd y hy => by
    obtain ⟨d, hd2, rfl⟩ := List.mem_map.mp hy
    exact (letter_at (hd d hd2).1 (hd d hd2).2).2
  obtain ⟨x0, g0, x00, x01⟩ := name_num b1 (i := 0) (by decide)
  obtain ⟨x9, g9, x90, x91⟩ := name_num b1 (i := 9) (by decide)
  have x01 : x0 < 8 := x01
  have x91 : x9 < 8 := x91
  have i0 : ixT (.lst (iL xs)) (.int 0) = some (.int x0) := atI_nat (by decide) (by rw [List.getElem?_map]; show Option.map _ xs[0]? = _; rw [g0]; rfl)
  have i9 : ixT (.lst (iL xs)) (.int 9) = some (.int x9) := atI_nat (by decide) (by rw [List.getElem?_map]; show Option.map _ xs[9]? = _; rw [g9]; rfl)
  have c1 : slT (.lst (iL xs)) (some 1) (some 9) = some (.own (.lst (iL ((xs.drop 1).take 8)))) := cut_iL (a := 1) (b := 9) (by omega) (by omega)
  have d1 := name_cut b1 (a := 1) (n := 8) (by decide) (by decide) (by decide)
  have dl1 : ((xs.drop 1).take 8).length = 8 := by rw [List.length_take, List.length_drop]; omega
  have st0 := join_nm (lets _ d1)
  rw [List.length_map, dl1] at st0
  obtain ⟨stL, stN⟩ := join_word d1
  rw [dl1] at stN
  have go : ∀ (m : Md), m = .sh ∨ m = .bor → ∃ o outs, runDf Φ0 c__law_names [.sh, .sh, m] [.scr ns, .int at', .lst (sL ahead)] = .ok o outs ∧ ∃ nms : List Str, o = .own (.lst (sL nms)) ∧ outs = [.scr ns, .int at', .lst (sL ahead)] ∧ nms.length = 6 ∧ (∀ s ∈ nms, Wn s) ∧ nms.Nodup ∧ ∀ s ∈ nms, s ∉ ahead := by
    intro m em
    have rest : ∀ st : Int, wSs Φ0 (c__law_names.body.drop 4) [some (.sh, .scr ns), vi at', some (m.fl, .lst (sL ahead)), vs letters, oL (iL xs), vi st, none, none, none, none, none, none, none, none, none, none] (runQ [.sh, .sh, m] [.scr ns, .int at', .lst (sL ahead)] fun o outs => ∃ nms : List Str, o = .own (.lst (sL nms)) ∧ outs = [.scr ns, .int at', .lst (sL ahead)] ∧ nms.length = 6 ∧ (∀ s ∈ nms, Wn s) ∧ nms.Nodup ∧ ∀ s ∈ nms, s ∉ ahead) fun _ _ => False := by
      intro st
      refine ⟨_, c1, (iL ((xs.drop 1).take 8), []), rfl, ?_⟩
      refine lc_rule (sL (((xs.drop 1).take 8).map letterOf)) ⟨⟨by simp, len_le (by simp; omega)⟩, fun j t u f1 f2 => ?_, ?_⟩
      · rw [List.getElem?_map] at f1
        obtain ⟨d, hd, rfl⟩ := Option.map_eq_some_iff.mp f1
        rw [List.getElem?_map, List.getElem?_map, hd] at f2
        cases f2
        have := d1 d (List.mem_of_getElem? hd)
        exact ⟨_, (letter_at this.1 this.2).1, rfl, rfl⟩
      refine ⟨_, join_ok (lets _ d1) (by rw [List.length_map, dl1]; decide), ?_⟩
      generalize Txt.join "" (((xs.drop 1).take 8).map letterOf) = stem at st0 stL stN
      refine ⟨okR_of (by decide) (by decide), ?_⟩
      refine for_rule (fun k e => ∃ ans : List Str, e = [some (.sh, .scr ns), vi at', some (m.fl, .lst (sL ahead)), vs letters, oL (iL xs), vi st, vs stem, none, oL (sL ans), none, none, none, none, none, none, none] ∧ ans.length = k ∧ (∀ s ∈ ans, Wn s) ∧ ans.Nodup ∧ ∀ s ∈ ans, s ∉ ahead) ⟨[], rfl, rfl, nofun, List.nodup_nil, nofun⟩ ?_ ?_
      · rintro k t e ht ⟨ans, rfl, hal, haok2, hnd, hdis⟩
        obtain ⟨rfl, hk⟩ := range_at ht
        have hk : k < 6 := by omega
        rw [show (0 : Int) + (k : Int) = k by omega]
        have cr : slT (.lst (iL xs)) (some (9 * (k : Int))) (some (9 * (k : Int) + 9)) = some (.own (.lst (iL ((xs.drop (9 * k)).take 9)))) := by
          rw [show 9 * (k : Int) = ((9 * k : Nat) : Int) by omega, show ((9 * k : Nat) : Int) + 9 = ((9 * k + 9 : Nat) : Int) by omega]
          have := cut_iL (xs := xs) (a := 9 * k) (b := 9 * k + 9) (by omega) (by omega)
          rw [show 9 * k + 9 - 9 * k = 9 by omega] at this
          exact this
        have rl : ((xs.drop (9 * k)).take 9).length = 9 := by rw [List.length_take, List.length_drop]; omega
        obtain ⟨y0, gy, y00, y01⟩ := name_num b1 (i := 9 * k) (by omega)
        rw [if_pos (by omega)] at y01
        have iy : ixT (.lst (iL ((xs.drop (9 * k)).take 9))) (.int 0) = some (.int y0) := atI_nat (by decide) (by
          rw [List.getElem?_map]
          show Option.map _ ((xs.drop (9 * k)).take 9)[0]? = _
          rw [List.getElem?_take, if_pos (by decide), List.getElem?_drop, Nat.add_zero, gy]
          rfl)
        obtain ⟨y, rfl⟩ := Int.eq_ofNat_of_zero_le y00
        have c2 : slT (.lst (iL ((xs.drop (9 * k)).take 9))) (some 1) (some (2 + (y : Int))) = some (.own (.lst (iL ((xs.drop (9 * k + 1)).take (y + 1))))) := by
          have := cut_iL (xs := (xs.drop (9 * k)).take 9) (a := 1) (b := 2 + y) (by omega) (by omega)
          rw [row_eq k 1 (2 + y - 1) (by omega), show 2 + y - 1 = y + 1 by omega, show ((2 + y : Nat) : Int) = 2 + (y : Int) by omega] at this
          exact this
        have d2 := name_cut b1 (a := 9 * k + 1) (n := y + 1) (by omega) (by omega) (by omega)
        have dl2 : ((xs.drop (9 * k + 1)).take (y + 1)).length = y + 1 := by rw [List.length_take, List.length_drop]; omega
        have nm0 := join_nm (lets _ d2)
        rw [List.length_map, dl2] at nm0
        have fin : ∀ (nm : Str) (x12 : Slot), Wv nm → (x12 = none ∨ ∃ s, x12 = vs s) → wSs Φ0 ((match c__law_names.body.getD 6 .pass with | .forr _ _ b _ => b | _ => []).drop 4) [some (.sh, .scr ns), vi at', some (m.fl, .lst (sL ahead)), vs letters, oL (iL xs), vi st, vs stem, none, oL (sL ans), vi k, oL (iL ((xs.drop (9 * k)).take 9)), vs nm, x12, none, none, none] (loopK [9, 13, 11, 10, 12, 14] (fun e => ∃ ans : List Str, e = [some (.sh, .scr ns), vi at', some (m.fl, .lst (sL ahead)), vs letters, oL (iL xs), vi st, vs stem, none, oL (sL ans), none, none, none, none, none, none, none] ∧ ans.length = k + 1 ∧ (∀ s ∈ ans, Wn s) ∧ ans.Nodup ∧ ∀ s ∈ ans, s ∉ ahead) (fun f e2 => seqK (wSs Φ0 (c__law_names.body.drop 7)) (runQ [.sh, .sh, m] [.scr ns, .int at', .lst (sL ahead)] fun o outs => ∃ nms : List Str, o = .own (.lst (sL nms)) ∧ outs = [.scr ns, .int at', .lst (sL ahead)] ∧ nms.length = 6 ∧ (∀ s ∈ nms, Wn s) ∧ nms.Nodup ∧ ∀ s ∈ nms, s ∉ ahead) (fun _ _ => False) f (unlock e2 []))) fun _ _ => False := by
          intro nm x12 hnm hx12
          have ek : sL ahead ++ sL ans ++ [T.str "all", .str "any", .str "bell", .str "none"] = sL (ahead ++ ans ++ wordsN) := by
            show _ = (ahead ++ ans ++ wordsN).map T.str
            rw [List.map_append, List.map_append]
            rfl
          have kl : (ahead ++ ans ++ wordsN).length ≤ 20 := by
            rw [List.length_append, List.length_append]
            have : wordsN.length = 4 := rfl
            omega
          have put : ∀ s : Str, Wv s → s ∉ ahead ++ ans ++ wordsN → (ans ++ [s]).length = k + 1 ∧ (∀ x ∈ ans ++ [s], Wn x) ∧ (ans ++ [s]).Nodup ∧ ∀ x ∈ ans ++ [s], x ∉ ahead := fun s hs hno => by
            refine ⟨by simp [hal], fun x hx => ?_, ?_, fun x hx => ?_⟩
            · rcases List.mem_append.mp hx with q | q
              · exact haok2 x q
              · rw [List.mem_singleton.mp q]; exact ⟨hs, fun z => hno (List.mem_append_right _ z)⟩
            · rw [List.nodup_append]
              refine ⟨hnd, by simp, fun x hx y hy e => ?_⟩
              rw [List.mem_singleton.mp hy] at e
              subst e
              exact hno (List.mem_append_left _ (List.mem_append_right _ hx))
            · rcases List.mem_append.mp hx with q | q
              · exact hdis x q
              · rw [List.mem_singleton.mp q]
                exact fun z => hno (List.mem_append_left _ (List.mem_append_left _ z))
          have al : (sL ans).length < LIM := len_lt (by simp; omega)
          have done : ∀ s : Str, sL ans ++ [T.str s] = sL (ans ++ [s]) := fun s => by
            show _ = (ans ++ [s]).map T.str
            rw [List.map_append]
            rfl
          have l1 : (sL ahead).length + (sL ans).length ≤ LIM := len_le (by simp; omega)
          have l2 : (sL ahead ++ sL ans).length + 4 ≤ LIM := len_le (by simp; omega)
          have p7 : NmOk 7 (cutS nm none (some 7)) := ⟨by rw [cutS_hi (by decide)]; exact Nat.min_le_left _ _, cutS_ok hnm.1.2⟩
          obtain ⟨s, r, hr, hs1, hs2⟩ := freshN p7 hnm.2.2.cut kl
          have hc : signsT letters = (letters.cps.toList.map fun c => T.str ⟨#[c]⟩) := rfl
          have hl2 : letters.cps.toList.length = 26 := by decide +kernel
          rcases hx12 with rfl | ⟨s12, rfl⟩
          all_goals
            refine ⟨l1, l2, ?_⟩
            refine ⟨_, (congrArg (fun l => cmpT .In (.str nm) (.lst l)) ek).trans (in_strs nm _), fun _ => ?_, fun z => ?_⟩
            · refine ⟨(signsT letters, []), rfl, ?_⟩
              refine lc_rule ((candN (cutS nm none (some 7))).map T.str) ⟨⟨by unfold candN; rw [hc]; simp, by rw [hc, List.length_map, hl2]; exact len_le (by decide)⟩, fun j t u f1 f2 => ?_, ?_⟩
              · rw [hc, List.getElem?_map] at f1
                obtain ⟨c, hcj, rfl⟩ := Option.map_eq_some_iff.mp f1
                unfold candN at f2
                rw [List.getElem?_map, List.getElem?_map, hcj] at f2
                cases f2
                exact ⟨_, sl_str (Nat.le_trans hnm.1.1 (by decide)), Nat.le_trans (Nat.add_le_add p7.1 (Nat.le_refl 1)) (len_le (by decide)), rfl, rfl⟩
              refine ⟨_, rfl, ?_⟩
              refine lcf_rule ((candN (cutS nm none (some 7))).map fun s => if !decide (s ∈ ahead ++ ans ++ wordsN) then some (T.str s) else none) ⟨⟨by simp, len_le (by unfold candN; simp [hl2])⟩, fun j t u f1 f2 => ?_, ?_⟩
              · rw [List.getElem?_map] at f1 f2
                obtain ⟨c, hcj, rfl⟩ := Option.map_eq_some_iff.mp f1
                rw [hcj] at f2
                cases f2
                refine ⟨_, (congrArg (fun l => cmpT .NotIn (.str c) (.lst l)) ek).trans (notin_strs c _), fun z => ⟨(if_pos z).symm, rfl⟩, fun z => ⟨(if_neg (by rw [z]; decide)).symm, rfl⟩⟩
              · rw [fm_filter (fun s => !decide (s ∈ ahead ++ ans ++ wordsN)) T.str, hr]
                obtain ⟨w1, w2, w3, w4⟩ := put s hs2 hs1
                refine ⟨.str s, atI_nat (by decide) rfl, al, ans ++ [s], ?_, w1, w2, w3, w4⟩
                rw [← done s]
                rfl
            · obtain ⟨w1, w2, w3, w4⟩ := put nm hnm (of_decide_eq_false z)
              refine ⟨al, ans ++ [nm], ?_, w1, w2, w3, w4⟩
              rw [← done nm]
              rfl
        refine ⟨okm_l (by decide), okm_l (by decide), _, cr, _, iy, _, c2, (iL ((xs.drop (9 * k + 1)).take (y + 1)), []), rfl, ?_⟩
        refine lc_rule (sL (((xs.drop (9 * k + 1)).take (y + 1)).map letterOf)) ⟨⟨by simp, len_le (by simp; omega)⟩, fun j t u f1 f2 => ?_, ?_⟩
        · rw [List.getElem?_map] at f1
          obtain ⟨d, hd, rfl⟩ := Option.map_eq_some_iff.mp f1
          rw [List.getElem?_map, List.getElem?_map, hd] at f2
          cases f2
          have := d2 d (List.mem_of_getElem? hd)
          exact ⟨_, (letter_at this.1 this.2).1, rfl, rfl⟩
        refine ⟨_, join_ok (lets _ d2) (by rw [List.length_map, dl2]; omega), ?_⟩
        obtain ⟨nmL, nmN⟩ := join_word d2
        rw [dl2] at nmN
        generalize Txt.join "" (((xs.drop (9 * k + 1)).take (y + 1)).map letterOf) = nm at nm0 nmL nmN
        have nm8 : Wv nm := ⟨nm0.mono (by omega), by omega, nmL⟩
        have step2 : ∀ nm : Str, Wv nm → wSs Φ0 ((match c__law_names.body.getD 6 .pass with | .forr _ _ b _ => b | _ => []).drop 3) [some (.sh, .scr ns), vi at', some (m.fl, .lst (sL ahead)), vs letters, oL (iL xs), vi st, vs stem, none, oL (sL ans), vi k, oL (iL ((xs.drop (9 * k)).take 9)), vs nm, none, none, none, none] (loopK [9, 13, 11, 10, 12, 14] (fun e => ∃ ans : List Str, e = [some (.sh, .scr ns), vi at', some (m.fl, .lst (sL ahead)), vs letters, oL (iL xs), vi st, vs stem, none, oL (sL ans), none, none, none, none, none, none, none] ∧ ans.length = k + 1 ∧ (∀ s ∈ ans, Wn s) ∧ ans.Nodup ∧ ∀ s ∈ ans, s ∉ ahead) (fun f e2 => seqK (wSs Φ0 (c__law_names.body.drop 7)) (runQ [.sh, .sh, m] [.scr ns, .int at', .lst (sL ahead)] fun o outs => ∃ nms : List Str, o = .own (.lst (sL nms)) ∧ outs = [.scr ns, .int at', .lst (sL ahead)] ∧ nms.length = 6 ∧ (∀ s ∈ nms, Wn s) ∧ nms.Nodup ∧ ∀ s ∈ nms, s ∉ ahead) (fun _ _ => False) f (unlock e2 []))) fun _ _ => False := by
          intro nm hnm
          refine ⟨fun _ => ?_, fun _ => fin nm none hnm (.inl rfl)⟩
          have r26 : 0 ≤ (x9 + 3 * (k : Int)) % 26 ∧ (x9 + 3 * (k : Int)) % 26 < 26 := ⟨Int.emod_nonneg _ (by decide), Int.emod_lt_of_pos _ (by decide)⟩
          obtain ⟨lt1, lt2⟩ := letter_at r26.1 r26.2
          have s1 := cutS_hi (s := stem) x00
          have s2 := cutS_lo (s := stem) (k := x0 + 1) (by omega)
          have hst := st0.1
          have l1 : (letterOf ((x9 + 3 * (k : Int)) % 26)).length = 1 := rfl
          have nmk : Wv (cutS stem none (some x0) ++ letterOf ((x9 + 3 * (k : Int)) % 26) ++ cutS stem (some (x0 + 1)) none) := by
            refine ⟨⟨?_, strOk_app (strOk_app (cutS_ok st0.2) lt2.2) (cutS_ok st0.2)⟩, ?_, (stL.cut.app (lt_letter r26.1 r26.2)).app stL.cut⟩
            · rw [str_len, str_len, s1, s2, l1]
              omega
            · rw [str_len, str_len, l1]
              omega
          have a1 : (cutS stem none (some x0)).length + (letterOf ((x9 + 3 * (k : Int)) % 26)).length ≤ LIM := len_le (by rw [s1, l1]; omega)
          have a2 : (cutS stem none (some x0) ++ letterOf ((x9 + 3 * (k : Int)) % 26)).length + (cutS stem (some (x0 + 1)) none).length ≤ LIM := len_le (by rw [str_len, s1, s2, l1]; omega)
          refine ⟨_, i9, okm_l (by decide), by decide, _, lt1, _, i0, _, sl_str (Nat.le_trans hst (by decide)), a1, _, i0, _, sl_str (Nat.le_trans hst (by decide)), a2, ?_⟩
          exact fin _ _ nmk (.inr ⟨_, rfl⟩)
        refine ⟨fun _ => ?_, fun _ => step2 nm nm8⟩
        have hst := st0.1
        refine ⟨_, i0, by decide, _, sl_str (Nat.le_trans hst (by decide)), ?_⟩
        exact step2 _ ⟨⟨by rw [cutS_hi (by omega)]; omega, cutS_ok st0.2⟩, by rw [cutS_hi (by omega), stN]; omega, stL.cut⟩
      · rintro e ⟨ans, rfl, hal, h2, h3, h4⟩
        rcases em with rfl | rfl <;> exact ⟨_, rfl, ans, rfl, rfl, hal, h2, h3, h4⟩
    rcases em with rfl | rfl
    all_goals
      refine run_ex ⟨rfl, rfl⟩ ⟨_, h1, _, m1, len_le (by decide), _, m2, _, e1, _, h2, _, e2, by decide, fun _ => ?_, fun _ => rest 0⟩
      obtain ⟨v, hv⟩ : ∃ v, ys[1]? = some v := ⟨_, List.getElem?_eq_getElem (by rw [b4.1]; decide)⟩
      have iv : ixT (.lst (iL ys)) (.int 1) = some (.int v) := atI_nat (by decide) (by rw [List.getElem?_map]; show Option.map _ ys[1]? = _; rw [hv]; rfl)
      exact ⟨_, h3, _, h2, _, e3, _, e4, _, iv, rest v⟩
  exact go m (md2 hm)
end VL

set_option maxHeartbeats 4000000
namespace VL
open PySem PySem.Spec PyProof.Rows L2
/-! ### bells and choirs drawn by parts -/
def bellRs : List Int := [1001, 12, 6] ++ (List.replicate 6 [6, 1000, 4]).flatten
theorem bellRs_len : bellRs.length = 21 := by decide +kernel
theorem bellRs_ok : okRs bellRs := ⟨by decide +kernel, by rw [bellRs_len]; decide⟩
theorem bellRs_at : ∀ k : Nat, k < 6 → bellRs[3 + 3 * k]? = some 6 ∧ bellRs[4 + 3 * k]? = some 1000 ∧ bellRs[5 + 3 * k]? = some 4 := by decide +kernel
theorem below_at {xs rs : List Int} (h : Below xs rs) {i : Nat} {r : Int} (e : rs[i]? = some r) : ∃ x, xs[i]? = some x ∧ 0 ≤ x ∧ x < r := by
  have hi : i < xs.length := by rw [h.1]; exact (List.getElem?_eq_some_iff.mp e).1
  exact ⟨_, List.getElem?_eq_getElem hi, h.2 i _ _ (List.getElem?_eq_getElem hi) e⟩
theorem iL_ix {xs : List Int} {i : Nat} {x : Int} (e : xs[i]? = some x) : ixT (.lst (iL xs)) (.int i) = some (.int x) :=
  atI_nat (by omega) (by rw [List.getElem?_map, show (i : Int).toNat = i by omega, e]; rfl)
theorem take3 {xs : List Int} {a : Nat} {x y z : Int} (e1 : xs[a]? = some x) (e2 : xs[a + 1]? = some y) (e3 : xs[a + 2]? = some z) : (xs.drop a).take 3 = [x, y, z] := by
  refine List.ext_getElem? fun i => ?_
  rw [List.getElem?_take]
  by_cases h : i < 3
  · rw [if_pos h, List.getElem?_drop]
    have : i = 0 ∨ i = 1 ∨ i = 2 := by omega
    rcases this with rfl | rfl | rfl
    · exact e1
    · exact e2
    · exact e3
  · rw [if_neg h]
    exact (List.getElem?_eq_none (by simp; omega)).symm
def S__law_bell (Φ : Ft) : Prop := ∃ r, Φ.fn "_law_bell" = some ⟨[.rd, .rd, .rd, .rd], r⟩ ∧ ∀ (xs : List Int) (nm : Str) (n : Nat) (s : Int), Below xs bellRs → 1 ≤ n → n ≤ 60 → 1 ≤ s → s ≤ 1000 →
  ∃ b : Be, r [.bor, .sh, .sh, .sh] [.lst (iL xs), .str nm, .int n, .int s] = .ok (.val b.t) [.lst (iL xs), .str nm, .int n, .int s] ∧ b.nm = nm ∧ b.Ok n
theorem p__law_bell {Φ0 Φ : Ft} (h : Φ.fn "_law_bell" = some (Df.fn Φ0 c__law_bell)) : S__law_bell Φ := by
  refine ⟨_, h, fun xs nm n s hb n1 n2 s1 s2 => ?_⟩
  suffices hx : ∃ o outs, runDf Φ0 c__law_bell [.bor, .sh, .sh, .sh] [.lst (iL xs), .str nm, .int n, .int s] = .ok o outs ∧ ∃ b : Be, o = .val b.t ∧ outs = [.lst (iL xs), .str nm, .int n, .int s] ∧ b.nm = nm ∧ b.Ok n by
    obtain ⟨_, _, h1, us, rfl, rfl, h2⟩ := hx; exact ⟨us, h1, h2⟩
  have hl : xs.length = 21 := by rw [hb.1, bellRs_len]
  obtain ⟨x0, g0, a0, b0⟩ := below_at hb (i := 0) (r := 1001) (by decide +kernel)
  obtain ⟨x1, g1, a1, b1⟩ := below_at hb (i := 1) (r := 12) (by decide +kernel)
  obtain ⟨x2, g2, a2, b2⟩ := below_at hb (i := 2) (r := 6) (by decide +kernel)
  have i0 : ixT (.lst (iL xs)) (.int 0) = some (.int x0) := iL_ix g0
  have i1 : ixT (.lst (iL xs)) (.int 1) = some (.int x1) := iL_ix g1
  have i2 : ixT (.lst (iL xs)) (.int 2) = some (.int x2) := iL_ix g2
  obtain ⟨c, rfl⟩ := Int.eq_ofNat_of_zero_le a2
  refine run_ex ⟨rfl, rfl⟩ ⟨_, i2, okR_of (by omega) (by omega), ?_⟩
  refine for_rule (fun k e => ∃ ls : List Li, e = [some (.bor, .lst (iL xs)), vs nm, vi n, vi s, vi c, oL (ls.map Li.t), none, none, none, none, none] ∧ ls.length = k ∧ ∀ l ∈ ls, l.Ok n) ⟨[], rfl, rfl, nofun⟩ ?_ ?_
  · rintro k t e ht ⟨ls, rfl, hk2, hls⟩
    obtain ⟨rfl, hk⟩ := range_at ht
    rw [show (0 : Int) + (k : Int) = k by omega]
    have hk : k < 6 := by omega
    obtain ⟨r3, r4, r5⟩ := bellRs_at k hk
    obtain ⟨w, gw, w0, w1⟩ := below_at hb r3
    obtain ⟨b, gb, b0, b1⟩ := below_at hb r4
    obtain ⟨z, gz, z0, z1⟩ := below_at hb r5
    have cs : slT (.lst (iL xs)) (some (3 + 3 * (k : Int))) (some (6 + 3 * (k : Int))) = some (.own (.lst [.int w, .int b, .int z])) := by
      have := cut_iL (xs := xs) (a := 3 + 3 * k) (b := 6 + 3 * k) (by omega) (by omega)
      rw [show 6 + 3 * k - (3 + 3 * k) = 3 by omega, take3 gw (by rw [show 3 + 3 * k + 1 = 4 + 3 * k by omega]; exact gb) (by rw [show 3 + 3 * k + 2 = 5 + 3 * k by omega]; exact gz), show ((3 + 3 * k : Nat) : Int) = 3 + 3 * (k : Int) by omega, show ((6 + 3 * k : Nat) : Int) = 6 + 3 * (k : Int) by omega] at this
      exact this
    have m1 := mod_lt (a := w) (b := (n : Int)) (by omega)
    have m2 := mod_lt (a := b) (b := s) (by omega)
    refine ⟨okm_l (by decide), okm_l (by decide), _, cs, rfl, show 0 < (n : Int) by omega, show 0 < s by omega, ?_⟩
    refine ⟨len_lt (by simp; omega), ls ++ [⟨(w % (n : Int)).toNat, 1 + b % s, decide (0 < z)⟩], ?_, by simp [hk2], fun l hl => ?_⟩
    · have : Li.t ⟨(w % (n : Int)).toNat, 1 + b % s, decide (0 < z)⟩ = .tup [.int (w % (n : Int)), .int (1 + b % s), .int (if decide (0 < z) = true then 1 else 0)] := by
        unfold Li.t
        rw [show (((w % (n : Int)).toNat : Nat) : Int) = w % (n : Int) by omega]
      rw [List.map_append, List.map_singleton, this]
      rfl
    · rcases List.mem_append.mp hl with q | q
      · exact hls l q
      · rw [List.mem_singleton.mp q]
        refine ⟨by show (w % (n : Int)).toNat < n; omega, by show 1 ≤ 1 + b % s; omega, by show 1 + b % s ≤ 1000; omega⟩
  · rintro e ⟨ls, rfl, hk2, hls⟩
    have hr : (rangeT 0 ((c : Int) + 1)).length = c + 1 := by simp [rangeT]
    have hll : ls.length = c + 1 := by rw [hk2]; exact hr
    have hlt : ((ls.map Li.t).length : Int) = ls.length := by rw [List.length_map]
    have m0 := mod_lt (a := x0) (b := s + 1) (by omega)
    have mk : ∀ u : RuleW, u.Ok ls.length → ∃ b : Be, T.tup [.str nm, .int (x0 % (s + 1)), u.t, .tup (ls.map Li.t)] = b.t ∧ b.nm = nm ∧ b.Ok n := fun u hu => ⟨⟨nm, x0 % (s + 1), u, ls⟩, rfl, rfl, ⟨⟨by show 0 ≤ x0 % (s + 1); omega, by show x0 % (s + 1) ≤ 1000; omega⟩, ⟨by show 1 ≤ ls.length; omega, by show ls.length ≤ 6; omega⟩, hu, hls⟩⟩
    have fin : ∀ u : RuleW, u.Ok ls.length → wSs Φ0 (c__law_bell.body.drop 6) [some (.bor, .lst (iL xs)), vs nm, vi n, vi s, vi c, oL (ls.map Li.t), none, none, none, none, some (.sh, u.t)] (runQ [.bor, .sh, .sh, .sh] [.lst (iL xs), .str nm, .int n, .int s] fun o outs => ∃ b : Be, o = .val b.t ∧ outs = [.lst (iL xs), .str nm, .int n, .int s] ∧ b.nm = nm ∧ b.Ok n) fun _ _ => False := by
      intro u hu
      obtain ⟨b, e, h1, h2⟩ := mk u hu
      refine ⟨_, i0, show 0 < s + 1 by omega, _, rfl, b, ?_, rfl, h1, h2⟩
      rw [← e]
      rfl
    have second : ∀ u : RuleW, u.Ok ls.length → wSs Φ0 (c__law_bell.body.drop 5) [some (.bor, .lst (iL xs)), vs nm, vi n, vi s, vi c, oL (ls.map Li.t), none, none, none, none, some (.sh, u.t)] (runQ [.bor, .sh, .sh, .sh] [.lst (iL xs), .str nm, .int n, .int s] fun o outs => ∃ b : Be, o = .val b.t ∧ outs = [.lst (iL xs), .str nm, .int n, .int s] ∧ b.nm = nm ∧ b.Ok n) fun _ _ => False := by
      intro u hu
      refine ⟨_, i1, fun _ => ?_, fun _ => fin u hu⟩
      have m3 := mod_lt (a := x1 - 6) (b := ((ls.map Li.t).length : Int)) (by omega)
      exact ⟨_, i1, show 0 < ((ls.map Li.t).length : Int) by omega, fin (.num (1 + (x1 - 6) % ((ls.map Li.t).length : Int))) ⟨by omega, by omega⟩⟩
    exact ⟨_, i1, fun _ => second .any trivial, fun _ => second .all trivial⟩

def S__law_choir (Φ : Ft) : Prop := ∃ r, Φ.fn "_law_choir" = some ⟨[.rd, .rd, .rd], r⟩ ∧ ∀ (ns : List Int) (at' : Nat) (nms : List Str) (m : Md), at' ≤ 100 → nms.length = 6 → m ≠ .io →
  ∃ bs : List Be, r [.sh, .sh, m] [.scr ns, .int at', .lst (sL nms)] = .ok (.val (chT bs)) [.scr ns, .int at', .lst (sL nms)] ∧ 1 ≤ bs.length ∧ bs.length ≤ 6 ∧ (∀ b ∈ bs, b.Ok bs.length) ∧ bs.map Be.nm = nms.take bs.length
theorem fourS {j : Int} (h0 : 0 ≤ j) (h1 : j < 4) : ∃ v : Int, ixT (.lst [.int 3, .int 12, .int 1000, .int 5]) (.int j) = some (.int v) ∧ 1 ≤ v ∧ v ≤ 1000 := by
  have : j = 0 ∨ j = 1 ∨ j = 2 ∨ j = 3 := by omega
  rcases this with rfl | rfl | rfl | rfl
  · exact ⟨3, rfl, by decide, by decide⟩
  · exact ⟨12, rfl, by decide, by decide⟩
  · exact ⟨1000, rfl, by decide, by decide⟩
  · exact ⟨5, rfl, by decide, by decide⟩
theorem p__law_choir {Φ0 Φ : Ft} (h : Φ.fn "_law_choir" = some (Df.fn Φ0 c__law_choir)) (H1 : S__law_part Φ0) (H2 : S__law_cell Φ0) (H3 : S__law_bell Φ0) : S__law_choir Φ := by
  obtain ⟨r1, h1, q1⟩ := H1
  obtain ⟨r2, h2, q2⟩ := H2
  obtain ⟨r3, h3, q3⟩ := H3
  refine ⟨_, h, fun ns at' nms m hat hn hm => ?_⟩
  suffices hx : ∃ o outs, runDf Φ0 c__law_choir [.sh, .sh, m] [.scr ns, .int at', .lst (sL nms)] = .ok o outs ∧ ∃ bs : List Be, o = .val (chT bs) ∧ outs = [.scr ns, .int at', .lst (sL nms)] ∧ 1 ≤ bs.length ∧ bs.length ≤ 6 ∧ (∀ b ∈ bs, b.Ok bs.length) ∧ bs.map Be.nm = nms.take bs.length by
    obtain ⟨_, _, h1, us, rfl, rfl, h2⟩ := hx; exact ⟨us, h1, h2⟩
  obtain ⟨xs, e1, b1⟩ := q1 ns at' [6, 4] ⟨by decide +kernel, by decide⟩ (by omega) (by omega)
  obtain ⟨x0, g0, a0, c0⟩ := below_at b1 (i := 0) (r := 6) rfl
  obtain ⟨x1, g1, a1, c1⟩ := below_at b1 (i := 1) (r := 4) rfl
  have i0 : ixT (.lst (iL xs)) (.int 0) = some (.int x0) := iL_ix g0
  have i1 : ixT (.lst (iL xs)) (.int 1) = some (.int x1) := iL_ix g1
  have e2 := q2 ns 0 (by decide)
  obtain ⟨c, rfl⟩ := Int.eq_ofNat_of_zero_le a0
  obtain ⟨sc, hsc, sc1, sc2⟩ := fourS a1 c1
  have m1 : binT .Mult (.lst [.int 6, .int 1000, .int 4]) (.int 6) = some (.own (.lst (iL (List.replicate 6 [6, 1000, 4]).flatten))) := by
    show (if (0 : Int) ≤ 6 ∧ (6 : Int) ≤ 1000000 ∧ [T.int 6, .int 1000, .int 4].length * (6 : Int).toNat ≤ LIM then some (Out.own (.lst (List.replicate (6 : Int).toNat [T.int 6, .int 1000, .int 4]).flatten)) else none) = _
    rw [if_pos ⟨by decide, by decide, len_le (by show 3 * 6 ≤ 1000000; decide)⟩]
    rfl
  have go : ∀ (m : Md), m = .sh ∨ m = .bor → ∃ o outs, runDf Φ0 c__law_choir [.sh, .sh, m] [.scr ns, .int at', .lst (sL nms)] = .ok o outs ∧ ∃ bs : List Be, o = .val (chT bs) ∧ outs = [.scr ns, .int at', .lst (sL nms)] ∧ 1 ≤ bs.length ∧ bs.length ≤ 6 ∧ (∀ b ∈ bs, b.Ok bs.length) ∧ bs.map Be.nm = nms.take bs.length := by
    intro m em
    have rest : ∀ s : Int, 1 ≤ s → s ≤ 1000 → wSs Φ0 (c__law_choir.body.drop 4) [some (.sh, .scr ns), vi at', some (m.fl, .lst (sL nms)), oL (iL xs), vi (1 + c), vi s, none, none, none] (runQ [.sh, .sh, m] [.scr ns, .int at', .lst (sL nms)] fun o outs => ∃ bs : List Be, o = .val (chT bs) ∧ outs = [.scr ns, .int at', .lst (sL nms)] ∧ 1 ≤ bs.length ∧ bs.length ≤ 6 ∧ (∀ b ∈ bs, b.Ok bs.length) ∧ bs.map Be.nm = nms.take bs.length) fun _ _ => False := by
      intro s s1 s2
      refine ⟨okR_of (by omega) (by omega), ?_⟩
      refine for_rule (fun k e => ∃ bs : List Be, e = [some (.sh, .scr ns), vi at', some (m.fl, .lst (sL nms)), oL (iL xs), vi (1 + c), vi s, oL (bs.map Be.t), none, none] ∧ bs.length = k ∧ (∀ b ∈ bs, b.Ok (c + 1)) ∧ bs.map Be.nm = nms.take k) ⟨[], rfl, rfl, nofun, rfl⟩ ?_ ?_
      · rintro k t e ht ⟨bs, rfl, hk2, hok, hnm⟩
        obtain ⟨rfl, hk⟩ := range_at ht
        rw [show (0 : Int) + (k : Int) = k by omega]
        have hk : k < nms.length := by omega
        obtain ⟨ys, e3, b3⟩ := q1 ns ((at' : Int) + 1 + k) bellRs bellRs_ok (by omega) (by omega)
        obtain ⟨b, e4, f1, f2⟩ := q3 ys nms[k] (c + 1) s b3 (by omega) (by omega) s1 s2
        rw [show ((c + 1 : Nat) : Int) = 1 + (c : Int) by omega] at e4
        have inm : ixT (.lst (sL nms)) (.int k) = some (.str nms[k]) := atI_nat (by omega) (by rw [List.getElem?_map, show (k : Int).toNat = k by omega, List.getElem?_eq_getElem hk]; rfl)
        refine ⟨_, h1, _, m1, len_le (by decide), _, e3, _, h3, _, inm, _, e4, len_lt (by simp; omega), bs ++ [b], ?_, by simp [hk2], fun x hx => ?_, ?_⟩
        · rw [List.map_append]; rfl
        · rcases List.mem_append.mp hx with q | q
          · exact hok x q
          · rw [List.mem_singleton.mp q]; exact f2
        · rw [List.map_append, hnm, List.take_add_one, List.getElem?_eq_getElem hk, List.map_singleton, f1]
          rfl
      · rintro e ⟨bs, rfl, hk2, hok, hnm⟩
        have hr : (rangeT 0 (1 + (c : Int))).length = c + 1 := by simp [rangeT]; omega
        rw [hr] at hk2 hnm
        have fin : bs.map Be.nm = nms.take bs.length := by rw [hnm, hk2]
        rcases em with rfl | rfl <;> exact ⟨_, rfl, bs, rfl, rfl, by omega, by omega, by rw [hk2]; exact hok, fin⟩
    rcases em with rfl | rfl
    all_goals
      refine run_ex ⟨rfl, rfl⟩ ⟨_, h1, _, e1, _, i0, _, h2, _, e2, by decide, fun _ => ⟨_, i1, _, hsc, rest sc sc1 sc2⟩, fun _ => rest 1000 (by decide) (by decide)⟩
  exact go m (md2 hm)
end VL

set_option maxHeartbeats 4000000
namespace VL
open PySem PySem.Spec PyProof.Rows L2
/-! ### choirs drawn by cells of their own: a pack (the cell, its place) that goes on -/
def PkOk (ts : List T) : Prop := ∃ c k : Int, ts = [.int c, .int k] ∧ 0 ≤ k ∧ k ≤ 1000
theorem sum_iL (L : List Int) : biT .sum [.lst (iL L)] = some (.val (.int L.sum)) := by
  show (intsT (iL L)).map _ = _
  rw [intsT_iL]
  rfl
def S__law_pack (Φ : Ft) : Prop := ∃ r, Φ.fn "_law_pack" = some ⟨[.rd, .rd], r⟩ ∧ ∀ (ns : List Int) (k : Int), 0 ≤ k → k ≤ 1000 → ∃ ts, r [.sh, .sh] [.scr ns, .int k] = .ok (.own (.lst ts)) [.scr ns, .int k] ∧ PkOk ts
theorem p__law_pack {Φ0 Φ : Ft} (h : Φ.fn "_law_pack" = some (Df.fn Φ0 c__law_pack)) : S__law_pack Φ := by
  refine ⟨_, h, fun ns k k0 k1 => ?_⟩
  suffices hx : ∃ o outs, runDf Φ0 c__law_pack [.sh, .sh] [.scr ns, .int k] = .ok o outs ∧ ∃ ts, o = .own (.lst ts) ∧ outs = [.scr ns, .int k] ∧ PkOk ts by
    obtain ⟨_, _, h1, us, rfl, rfl, h2⟩ := hx; exact ⟨us, h1, h2⟩
  refine run_ex ⟨rfl, rfl⟩ ⟨fun hz => ?_, fun hz => ?_⟩
  · exact ⟨_, ix_scr k0 (by omega), _, rfl, _, rfl, rfl, _, _, rfl, k0, k1⟩
  · have e : slT (.scr ns) none (some 9) = some (.own (.lst (iL (cutT ns none (some 9))))) := rfl
    refine ⟨okm_l (by decide), _, e, _, sum_iL _, by decide, _, rfl, _, rfl, rfl, _, _, rfl, k0, k1⟩
def S__law_take (Φ : Ft) : Prop := ∃ r, Φ.fn "_law_take" = some ⟨[.io, .rd], r⟩ ∧ ∀ (ts : List T) (m : Int), PkOk ts → 0 < m → m < 1073741824 → ∃ (us : List T) (d : Int), r [.io, .sh] [.lst ts, .int m] = .ok (.val (.int d)) [.lst us, .int m] ∧ PkOk us ∧ 0 ≤ d ∧ d < m
theorem p__law_take {Φ0 Φ : Ft} (h : Φ.fn "_law_take" = some (Df.fn Φ0 c__law_take)) : S__law_take Φ := by
  refine ⟨_, h, fun ts m ⟨c, k, e, k0, k1⟩ hm hd => ?_⟩
  subst e
  suffices hx : ∃ o outs, runDf Φ0 c__law_take [.io, .sh] [.lst [.int c, .int k], .int m] = .ok o outs ∧ ∃ us d, o = .val (.int d) ∧ outs = [.lst us, .int m] ∧ PkOk us ∧ 0 ≤ d ∧ d < m by
    obtain ⟨_, _, h1, ts, d, rfl, rfl, h2⟩ := hx; exact ⟨ts, d, h1, h2⟩
  refine run_ex ⟨rfl, rfl⟩ ?_
  have tail : wSs Φ0 (c__law_take.body.drop 1) [iob [.int c, .int k], vi m, none] (runQ [.io, .sh] [.lst [.int c, .int k], .int m] fun o outs => ∃ us d, o = .val (.int d) ∧ outs = [.lst us, .int m] ∧ PkOk us ∧ 0 ≤ d ∧ d < m) fun _ _ => False := by
    refine ⟨_, rfl, okm_r (by decide), _, rfl, okm_r (by decide), by decide, _, rfl, ?_⟩
    obtain ⟨n0, n1⟩ := mod_lt (a := c * 742939 + k * 65063 + 40503) (b := 16777213) (by decide)
    generalize (c * 742939 + k * 65063 + 40503) % 16777213 = q at n0 n1
    refine ⟨_, rfl, _, rfl, by decide, okm_l (by omega), by decide, hm, ?_⟩
    obtain ⟨d0, d1⟩ := mod_lt (a := q * (q % 4093 + 7) / 64) hm
    exact ⟨_, rfl, _, _, rfl, rfl, ⟨_, _, rfl, k0, k1⟩, d0, d1⟩
  have head : wSs Φ0 ((match c__law_take.body.getD 0 .pass with | .iff _ b _ => b | _ => [])) [iob [.int c, .int k], vi m, none] (seqK (wSs Φ0 (c__law_take.body.drop 1)) (runQ [.io, .sh] [.lst [.int c, .int k], .int m] fun o outs => ∃ us d, o = .val (.int d) ∧ outs = [.lst us, .int m] ∧ PkOk us ∧ 0 ≤ d ∧ d < m) fun _ _ => False) fun _ _ => False := by
    obtain ⟨n0, n1⟩ := mod_lt (a := c) hm
    exact ⟨_, rfl, _, if_pos ⟨hm, hd⟩, rfl, _, rfl, _, rfl, _, _, rfl, rfl, ⟨_, _, rfl, k0, k1⟩, n0, n1⟩
  exact ⟨_, rfl, fun hz => ⟨by decide, fun _ => tail, fun _ => head⟩, fun hz => head⟩
def S__law_rule (Φ : Ft) : Prop := ∃ r, Φ.fn "_law_rule" = some ⟨[.io, .rd, .rd], r⟩ ∧ ∀ (ts : List T) (s n : Int), PkOk ts → 1 ≤ n → n ≤ 1000 →
  ∃ (us : List T) (u : RuleW), r [.io, .sh, .sh] [.lst ts, .int s, .int n] = .ok (.val u.t) [.lst us, .int s, .int n] ∧ PkOk us ∧ u.Ok n ∧ (s = 0 → u.wants n = n) ∧ (s = 1 → u.wants n = 1)
theorem p__law_rule {Φ0 Φ : Ft} (h : Φ.fn "_law_rule" = some (Df.fn Φ0 c__law_rule)) (H1 : S__law_take Φ0) : S__law_rule Φ := by
  obtain ⟨r1, h1, q1⟩ := H1
  refine ⟨_, h, fun ts s n p hn hn2 => ?_⟩
  suffices hx : ∃ o outs, runDf Φ0 c__law_rule [.io, .sh, .sh] [.lst ts, .int s, .int n] = .ok o outs ∧ ∃ us u, o = .val (RuleW.t u) ∧ outs = [.lst us, .int s, .int n] ∧ PkOk us ∧ u.Ok n ∧ (s = 0 → u.wants n = n) ∧ (s = 1 → u.wants n = 1) by
    obtain ⟨_, _, h1, us, l, rfl, rfl, h2⟩ := hx; exact ⟨us, l, h1, h2⟩
  refine run_ex ⟨rfl, rfl⟩ ⟨fun hs => ?_, fun hs0 => ⟨fun hs => ?_, fun hs1 => ?_⟩⟩
  · obtain ⟨u1, w, e1, p1, w0, w1⟩ := q1 ts 2 p (by decide) (by decide)
    have : w = 0 ∨ w = 1 := by omega
    rcases this with rfl | rfl
    · exact ⟨_, h1, _, e1, _, rfl, _, rfl, u1, .all, rfl, rfl, p1, trivial, fun _ => rfl, fun z => absurd (z.symm.trans hs) (by decide)⟩
    · exact ⟨_, h1, _, e1, _, rfl, _, rfl, u1, .num n, rfl, rfl, p1, ⟨hn, Int.le_refl _⟩, fun _ => rfl, fun z => absurd (z.symm.trans hs) (by decide)⟩
  · obtain ⟨u1, w, e1, p1, w0, w1⟩ := q1 ts 2 p (by decide) (by decide)
    have : w = 0 ∨ w = 1 := by omega
    rcases this with rfl | rfl
    · exact ⟨_, h1, _, e1, _, rfl, _, rfl, u1, .any, rfl, rfl, p1, trivial, fun z => absurd z hs0, fun _ => rfl⟩
    · exact ⟨_, h1, _, e1, _, rfl, _, rfl, u1, .num 1, rfl, rfl, p1, ⟨Int.le_refl _, hn⟩, fun z => absurd z hs0, fun _ => rfl⟩
  · obtain ⟨u1, w, e1, p1, w0, w1⟩ := q1 ts (n + 2) p (by omega) (by omega)
    obtain ⟨n, rfl⟩ := Int.eq_ofNat_of_zero_le (show 0 ≤ n by omega)
    refine ⟨_, h1, _, e1, okR_of (by omega) (by omega), ?_⟩
    refine lc_rule (iL ((List.range n).map fun (k : Nat) => (k : Int) + 1)) ⟨⟨by simp [rangeT], len_le (by simp [rangeT]; omega)⟩, fun j t u f1 f2 => ?_, ?_⟩
    · obtain ⟨rfl, hk⟩ := range_at f1
      rw [List.getElem?_map, List.getElem?_map, List.getElem?_range (by omega)] at f2
      cases f2
      exact ⟨by rw [show (0 : Int) + (j : Int) = j by omega]; rfl, rfl⟩
    have hl : ([.str "all", .str "any"] ++ iL ((List.range n).map fun (k : Nat) => (k : Int) + 1) : List T).length = n + 2 := by simp
    obtain ⟨w, rfl⟩ := Int.eq_ofNat_of_zero_le w0
    have hw : ∃ u : RuleW, u.Ok n ∧ ([.str "all", .str "any"] ++ iL ((List.range n).map fun (k : Nat) => (k : Int) + 1) : List T)[w]? = some u.t := by
      match w, w1 with
      | 0, _ => exact ⟨.all, trivial, rfl⟩
      | 1, _ => exact ⟨.any, trivial, rfl⟩
      | w + 2, w1 => 
        refine ⟨.num ((w : Int) + 1), ⟨by omega, by omega⟩, ?_⟩
        show (iL ((List.range n).map fun (k : Nat) => (k : Int) + 1))[w]? = _
        rw [List.getElem?_map, List.getElem?_map, List.getElem?_range (by omega)]
        rfl
    obtain ⟨u, hu, hg⟩ := hw
    refine ⟨len_le (by simp; omega), _, atI_nat (by omega) (by rw [show (w : Int).toNat = w by omega]; exact hg), _, rfl, u1, u, rfl, rfl, p1, hu, fun z => absurd z hs0, fun z => absurd z hs1⟩
theorem pick2 (a b : Int) (z : Bool) : ixT (.lst [.int a, .int b]) (.int (if z then 1 else 0)) = some (.int (if z then b else a)) := by cases z <;> rfl
abbrev shpT (n : Nat) (sf gr : Bool) (nms : List Str) : T := .tup [.int n, .bl sf, .bl gr, .lst (sL nms)]
def S__law_bell_k31 (Φ : Ft) : Prop := ∃ r, Φ.fn "_law_bell" = some ⟨[.io, .rd, .rd, .rd], r⟩ ∧ ∀ (ts : List T) (s : Int) (p n : Nat) (sf gr : Bool) (nms : List Str), PkOk ts → nms.length = n → n ≤ 6 → p < n →
  ∃ (us : List T) (b : Be), r [.io, .sh, .sh, .sh] [.lst ts, .int s, .int p, shpT n sf gr nms] = .ok (.val b.t) [.lst us, .int s, .int p, shpT n sf gr nms] ∧ PkOk us ∧ b.Ok n ∧ nms[p]? = some b.nm ∧ (s = 0 → b.u.wants b.ls.length = b.ls.length) ∧ (s = 1 → b.u.wants b.ls.length = 1)
theorem p__law_bell_k31 {Φ0 Φ : Ft} (h : Φ.fn "_law_bell" = some (Df.fn Φ0 c__law_bell_k31)) (H1 : S__law_take Φ0) (H2 : S__law_rule Φ0) : S__law_bell_k31 Φ := by
  obtain ⟨r1, h1, q1⟩ := H1
  obtain ⟨r2, h2, q2⟩ := H2
  refine ⟨_, h, fun ts s p n sf gr nms pk hn hn6 hp => ?_⟩
  suffices hx : ∃ o outs, runDf Φ0 c__law_bell_k31 [.io, .sh, .sh, .sh] [.lst ts, .int s, .int p, shpT n sf gr nms] = .ok o outs ∧ ∃ us b, o = .val (Be.t b) ∧ outs = [.lst us, .int s, .int p, shpT n sf gr nms] ∧ PkOk us ∧ b.Ok n ∧ nms[p]? = some b.nm ∧ (s = 0 → b.u.wants b.ls.length = b.ls.length) ∧ (s = 1 → b.u.wants b.ls.length = 1) by
    obtain ⟨_, _, h1, us, l, rfl, rfl, h2⟩ := hx; exact ⟨us, l, h1, h2⟩
  have hv : ∀ a b : Int, 0 < a → 0 < b → a < 2000 → b < 2000 → 0 < (if gr then b else a) ∧ (if gr then b else a) < 1073741824 := fun a b _ _ _ _ => by cases gr <;> constructor <;> simp <;> omega
  have hx1 := hv 10 1001 (by decide) (by decide) (by decide) (by decide)
  have hx2 := hv 9 1000 (by decide) (by decide) (by decide) (by decide)
  obtain ⟨u1, st, e1, p1, st0, st1⟩ := q1 ts (if gr then 1001 else 10) pk hx1.1 hx1.2
  have st2 : st ≤ 1000 := by cases gr <;> simp at st1 <;> omega
  obtain ⟨u2, c, e2, p2, c0, c1⟩ := q1 u1 3 p1 (by decide) (by decide)
  obtain ⟨v, hv, v0, v1⟩ : ∃ v : Int, ixT (.lst [.int 3, .int 3, .int 6]) (.int c) = some (.int v) ∧ 0 < v ∧ v ≤ 6 := by
    have : c = 0 ∨ c = 1 ∨ c = 2 := by omega
    rcases this with rfl | rfl | rfl
    · exact ⟨3, rfl, by decide, by decide⟩
    · exact ⟨3, rfl, by decide, by decide⟩
    · exact ⟨6, rfl, by decide, by decide⟩
  obtain ⟨u3, k, e3, p3, k0, k1⟩ := q1 u2 v p2 v0 (by omega)
  obtain ⟨k, rfl⟩ := Int.eq_ofNat_of_zero_le k0
  obtain ⟨nm, hnm⟩ : ∃ nm, nms[p]? = some nm := ⟨_, List.getElem?_eq_getElem (by omega)⟩
  refine run_ex ⟨rfl, rfl⟩ ⟨rfl, _, h1, _, pick2 .., _, e1, ?_⟩
  refine ⟨_, h1, _, h1, _, e2, _, hv, _, e3, okR_of (by omega) (by omega), ?_⟩
  refine for_rule (fun j e => ∃ (us : List T) (ls : List Li), e = [iob us, vi s, vi p, some (.sh, shpT n sf gr nms), vi n, some (.sh, .bl sf), some (.sh, .bl gr), some (.sh, .lst (sL nms)), vi st, oL (ls.map Li.t), none, none, none, none] ∧ PkOk us ∧ ls.length = j ∧ ∀ l ∈ ls, l.Ok n) ⟨u3, [], rfl, p3, rfl, nofun⟩ ?_ ?_
  · rintro j t e ht ⟨us, ls, rfl, pu, hl, hls⟩
    obtain ⟨rfl, hj⟩ := range_at ht
    rw [show (0 : Int) + (j : Int) = j by omega]
    obtain ⟨t1, w, f1, g1, w0, w1⟩ := q1 us n pu (by omega) (by omega)
    obtain ⟨t2, b, f2, g2, b0, b1⟩ := q1 t1 (if gr then 1000 else 9) g1 hx2.1 hx2.2
    have b2 : b ≤ 999 := by cases gr <;> simp at b1 <;> omega
    obtain ⟨t3, z, f3, g3, z0, z1⟩ := q1 t2 4 g2 (by decide) (by decide)
    obtain ⟨w, rfl⟩ := Int.eq_ofNat_of_zero_le w0
    have lo : ∀ kk : Bool, Li.Ok n ⟨w, 1 + b, kk⟩ := fun kk => ⟨by show w < n; omega, by show 1 ≤ 1 + b; omega, by show 1 + b ≤ 1000; omega⟩
    have fin : ∀ kk : Bool, wSs Φ0 ((match c__law_bell_k31.body.getD 3 .pass with | .forr _ _ b _ => b | _ => []).drop 4) [iob t3, vi s, vi p, some (.sh, shpT n sf gr nms), vi n, some (.sh, .bl sf), some (.sh, .bl gr), some (.sh, .lst (sL nms)), vi st, oL (ls.map Li.t), vi j, vi w, vi (1 + b), vi (if kk then 1 else 0)] (loopK [13, 12, 10, 11] (fun e => ∃ (us : List T) (ls : List Li), e = [iob us, vi s, vi p, some (.sh, shpT n sf gr nms), vi n, some (.sh, .bl sf), some (.sh, .bl gr), some (.sh, .lst (sL nms)), vi st, oL (ls.map Li.t), none, none, none, none] ∧ PkOk us ∧ ls.length = j + 1 ∧ ∀ l ∈ ls, l.Ok n) (fun f e2 => seqK (wSs Φ0 (c__law_bell_k31.body.drop 4)) (runQ [.io, .sh, .sh, .sh] [.lst ts, .int s, .int p, shpT n sf gr nms] fun o outs => ∃ us b, o = .val (Be.t b) ∧ outs = [.lst us, .int s, .int p, shpT n sf gr nms] ∧ PkOk us ∧ b.Ok n ∧ nms[p]? = some b.nm ∧ (s = 0 → b.u.wants b.ls.length = b.ls.length) ∧ (s = 1 → b.u.wants b.ls.length = 1)) (fun _ _ => False) f (unlock e2 []))) fun _ _ => False := by
      intro kk
      refine ⟨len_lt (by simp; omega), t3, ls ++ [⟨w, 1 + b, kk⟩], ?_, g3, by simp [hl], fun l hl => ?_⟩
      · rw [List.map_append]; rfl
      · rcases List.mem_append.mp hl with q | q
        · exact hls l q
        · rw [List.mem_singleton.mp q]; exact lo kk
    refine ⟨_, h1, _, f1, _, h1, _, pick2 .., _, f2, _, h1, _, f3, ?_⟩
    have bz : (if decide (0 < z) = true then (1 : Int) else 0) = if decide (0 < z) then 1 else 0 := rfl
    cases sf with
    | true => exact ⟨fun _ => ⟨fun _ => fin true, fun _ => fin (decide (0 < z))⟩, nofun⟩
    | false => exact ⟨nofun, fun _ => fin (decide (0 < z))⟩
  · rintro e ⟨us, ls, rfl, pu, hl, hls⟩
    have hr : (rangeT 0 (1 + (k : Int))).length = k + 1 := by simp [rangeT]; omega
    rw [hr] at hl
    have hl2 : ((ls.map Li.t).length : Int) = (ls.length : Int) := by rw [List.length_map]
    obtain ⟨t4, u, f4, g4, u0, u1, u2⟩ := q2 us s ((ls.map Li.t).length : Int) pu (by omega) (by omega)
    rw [hl2] at u0 u1 u2
    have inm : ixT (.lst (sL nms)) (.int p) = some (.str nm) := atI_nat (by omega) (by rw [List.getElem?_map, show (p : Int).toNat = p by omega, hnm]; rfl)
    refine ⟨_, inm, _, h2, _, f4, _, rfl, t4, ⟨nm, st, u, ls⟩, rfl, rfl, g4, ⟨⟨st0, st2⟩, ⟨by show 1 ≤ ls.length; omega, by show ls.length ≤ 6; omega⟩, u0, hls⟩, hnm, u1, u2⟩
/-- the names of a drawn choir -/
def S__law_names_k31 (Φ : Ft) : Prop := ∃ r, Φ.fn "_law_names" = some ⟨[.io, .rd], r⟩ ∧ ∀ (ts : List T) (n : Nat), PkOk ts → n ≤ 6 →
  ∃ (us : List T) (nms : List Str), r [.io, .sh] [.lst ts, .int n] = .ok (.own (.lst (sL nms))) [.lst us, .int n] ∧ PkOk us ∧ nms.length = n ∧ ∀ s ∈ nms, NmOk 8 s
theorem p__law_names_k31 {Φ0 Φ : Ft} (h : Φ.fn "_law_names" = some (Df.fn Φ0 c__law_names_k31)) (H1 : S__law_take Φ0) : S__law_names_k31 Φ := by
  obtain ⟨r1, h1, q1⟩ := H1
  refine ⟨_, h, fun ts n pk hn => ?_⟩
  suffices hx : ∃ o outs, runDf Φ0 c__law_names_k31 [.io, .sh] [.lst ts, .int n] = .ok o outs ∧ ∃ us nms, o = .own (.lst (sL nms)) ∧ outs = [.lst us, .int n] ∧ PkOk us ∧ nms.length = n ∧ ∀ s ∈ nms, NmOk 8 s by
    obtain ⟨_, _, h1, us, l, rfl, rfl, h2⟩ := hx; exact ⟨us, l, h1, h2⟩
  obtain ⟨u1, d, e1, p1, d0, d1⟩ := q1 ts 26 pk (by decide) (by decide)
  obtain ⟨u2, c, e2, p2, c0, c1⟩ := q1 u1 3 p1 (by decide) (by decide)
  obtain ⟨lt1, lt2⟩ := letter_at d0 d1
  refine run_ex ⟨rfl, rfl⟩ ⟨_, h1, _, e1, _, h1, _, e2, fun hc => ?_, fun hc => ?_⟩
  · have rp : ∀ k : Nat, k < n → binT .Mult (.str (letterOf d)) (.int ((k : Int) + 1)) = some (.val (.str (strRep (letterOf d) (k + 1)))) := fun k hk => by
      show (if (0 : Int) ≤ (k : Int) + 1 ∧ (k : Int) + 1 ≤ 1000 ∧ (letterOf d).length ≤ 1000 then _ else _) = _
      rw [if_pos ⟨by omega, by omega, Nat.le_trans lt2.1 (by decide)⟩, show ((k : Int) + 1).toNat = k + 1 by omega]
    refine ⟨okR_of (by omega) (by omega), ?_⟩
    refine lc_rule (sL ((List.range n).map fun (k : Nat) => strRep (letterOf d) (k + 1))) ⟨⟨by simp [rangeT], len_le (by simp [rangeT]; omega)⟩, fun j t u f1 f2 => ?_, ?_⟩
    · obtain ⟨rfl, hk⟩ := range_at f1
      rw [List.getElem?_map, List.getElem?_map, List.getElem?_range (by omega)] at f2
      cases f2
      rw [show (0 : Int) + (j : Int) = j by omega]
      exact ⟨_, lt1, _, rp j (by omega), rfl, rfl⟩
    refine ⟨_, rfl, u2, _, rfl, rfl, p2, by simp, fun s hs => ?_⟩
    obtain ⟨k, hk, rfl⟩ := List.mem_map.mp hs
    have hk := List.mem_range.mp hk
    have h2 : (letterOf d).cps.all (· < 0x110000) = true := lt2.2
    refine ⟨?_, ?_⟩
    · show (List.toArray _).size ≤ 8
      have : (letterOf d).cps.toList.length = 1 := rfl
      rw [List.size_toArray, List.length_flatten, List.map_replicate, List.sum_replicate_nat, this]
      omega
    · show (List.toArray _).all (· < 0x110000) = true
      rw [List.all_toArray, List.all_eq_true]
      intro x hx
      obtain ⟨l, hl, hx⟩ := List.mem_flatten.mp hx
      rw [List.eq_of_mem_replicate hl] at hx
      rw [← Array.all_toList, List.all_eq_true] at h2
      exact h2 x hx
  · obtain ⟨u3, m, e3, p3, m0, m1⟩ := q1 u2 6 p2 (by decide) (by decide)
    obtain ⟨m, rfl⟩ := Int.eq_ofNat_of_zero_le m0
    refine ⟨_, h1, _, e3, okR_of (by omega) (by omega), ?_⟩
    refine lcp_rule (fun j acc e => ∃ (us : List T) (ys : List Str), e = [iob us, vi n, vs letters, vi d, none, none, none, none, none] ∧ PkOk us ∧ acc = sL ys ∧ ys.length = j ∧ ∀ y ∈ ys, NmOk 1 y) ⟨len_le (by simp [rangeT]; omega), u3, [], rfl, p3, rfl, rfl, nofun⟩ ?_ ?_
    · rintro j t acc e ht hj ⟨us, ys, rfl, pu, rfl, hl, hy⟩
      obtain ⟨rfl, hk⟩ := range_at ht
      obtain ⟨t1, x, f1, g1, x0, x1⟩ := q1 us 26 pu (by decide) (by decide)
      obtain ⟨l1, l2⟩ := letter_at x0 x1
      refine ⟨_, h1, _, f1, _, l1, t1, ys ++ [letterOf x], rfl, g1, (by show sL ys ++ [T.str _] = (ys ++ [_]).map T.str; rw [List.map_append]; rfl), by simp [hl], fun y h => ?_⟩
      rcases List.mem_append.mp h with q | q
      · exact hy y q
      · rw [List.mem_singleton.mp q]; exact l2
    · rintro us' e hl' ⟨us, ys, rfl, pu, rfl, hl, hy⟩
      have hr : (rangeT 0 (m : Int)).length = m := by simp [rangeT]
      rw [hr] at hl
      refine ⟨_, join_ok hy (by omega), ?_⟩
      have st0 := join_nm hy
      rw [hl] at st0
      generalize Txt.join "" ys = stem at st0
      have st1 : stem.length ≤ 5 := Nat.le_trans st0.1 (by omega)
      obtain ⟨u4, a, e4, p4, a0, a1⟩ := q1 us ((stem.length : Int) + 1) pu (by omega) (by omega)
      have ls : biT .len [.str stem] = some (.val (.int stem.length)) := if_pos (len_le (by omega))
      refine ⟨_, h1, _, ls, _, e4, okR_of (by omega) (by omega), ?_⟩
      refine for_rule (fun k e => ∃ ans : List Str, e = [iob u4, vi n, vs letters, vi d, none, vs stem, vi a, oL (sL ans), none] ∧ ans.length = k ∧ ∀ s ∈ ans, NmOk 8 s) ⟨[], rfl, rfl, nofun⟩ ?_ ?_
      · rintro k t e ht ⟨ans, rfl, hk2, hok⟩
        obtain ⟨rfl, hk⟩ := range_at ht
        rw [show (0 : Int) + (k : Int) = k by omega]
        have hk : k < 6 := by omega
        have r26 : 0 ≤ (d + 5 * (k : Int)) % 26 ∧ (d + 5 * (k : Int)) % 26 < 26 := ⟨Int.emod_nonneg _ (by decide), Int.emod_lt_of_pos _ (by decide)⟩
        obtain ⟨l1, l2⟩ := letter_at r26.1 r26.2
        have s1 := cutS_hi (s := stem) a0
        have s2 := cutS_lo (s := stem) a0
        have l3 : (letterOf ((d + 5 * (k : Int)) % 26)).length = 1 := rfl
        have nmk : NmOk 7 (cutS stem none (some a) ++ letterOf ((d + 5 * (k : Int)) % 26) ++ cutS stem (some a) none) := by
          refine ⟨?_, strOk_app (strOk_app (cutS_ok st0.2) l2.2) (cutS_ok st0.2)⟩
          rw [str_len, str_len, s1, s2, l3]
          omega
        have b1 : (cutS stem none (some a)).length + (letterOf ((d + 5 * (k : Int)) % 26)).length ≤ LIM := len_le (by rw [s1, l3]; omega)
        have b2 : (cutS stem none (some a) ++ letterOf ((d + 5 * (k : Int)) % 26)).length + (cutS stem (some a) none).length ≤ LIM := len_le (by rw [str_len, s1, s2, l3]; omega)
        refine ⟨_, sl_str (by omega), okm_l (by decide), by decide, _, l1, b1, _, sl_str (by omega), b2, ?_⟩
        generalize cutS stem none (some a) ++ letterOf ((d + 5 * (k : Int)) % 26) ++ cutS stem (some a) none = nm at nmk
        have al : (sL ans).length < LIM := len_lt (by simp; omega)
        have fin : ∀ s : Str, NmOk 8 s → ∃ ans' : List Str, oL (sL ans ++ [T.str s]) = oL (sL ans') ∧ ans'.length = k + 1 ∧ ∀ x ∈ ans', NmOk 8 x := fun s hs => by
          refine ⟨ans ++ [s], ?_, by simp [hk2], fun x hx => ?_⟩
          · show _ = oL ((ans ++ [s]).map T.str)
            rw [List.map_append]; rfl
          · rcases List.mem_append.mp hx with q | q
            · exact hok x q
            · rw [List.mem_singleton.mp q]; exact hs
        refine ⟨_, in_strs nm wordsN, fun _ => ?_, fun _ => ?_⟩
        · have hq : NmOk 1 (Str.ofString "q") := ⟨by decide +kernel, by decide +kernel⟩
          obtain ⟨ans', f1, f2, f3⟩ := fin (nm ++ "q") (nmk.app hq)
          refine ⟨len_le (Nat.le_trans (Nat.add_le_add nmk.1 hq.1) (by decide)), al, ans', ?_, f2, f3⟩
          rw [← f1]
          rfl
        · obtain ⟨ans', f1, f2, f3⟩ := fin nm (nmk.mono (by decide))
          refine ⟨al, ans', ?_, f2, f3⟩
          rw [← f1]
          rfl
      · rintro e ⟨ans, rfl, hk2, hok⟩
        have hr : (rangeT 0 (n : Int)).length = n := by simp [rangeT]
        rw [hr] at hk2
        exact ⟨_, rfl, u4, ans, rfl, rfl, p4, hk2, hok⟩
def S__law_choir_k31 (Φ : Ft) : Prop := ∃ r, Φ.fn "_law_choir" = some ⟨[.rd, .rd, .rd, .rd], r⟩ ∧ ∀ (ns : List Int) (k s : Int) (mo : Nat), 0 ≤ k → k ≤ 900 → 1 ≤ mo → mo ≤ 6 →
  ∃ bs : List Be, r [.sh, .sh, .sh, .sh] [.scr ns, .int k, .int s, .int mo] = .ok (.val (chT bs)) [.scr ns, .int k, .int s, .int mo] ∧ 1 ≤ bs.length ∧ bs.length ≤ mo ∧ (∀ b ∈ bs, b.Ok bs.length) ∧ (∀ b ∈ bs, NmOk 8 b.nm) ∧ (s = 0 → ∀ b ∈ bs, b.u.wants b.ls.length = b.ls.length) ∧ (s = 1 → ∀ b ∈ bs, b.u.wants b.ls.length = 1)
theorem p__law_choir_k31 {Φ0 Φ : Ft} (h : Φ.fn "_law_choir" = some (Df.fn Φ0 c__law_choir_k31)) (H1 : S__law_pack Φ0) (H2 : S__law_take Φ0) (H3 : S__law_names_k31 Φ0) (H4 : S__law_bell_k31 Φ0) : S__law_choir_k31 Φ := by
  obtain ⟨r1, h1, q1⟩ := H1
  obtain ⟨r2, h2, q2⟩ := H2
  obtain ⟨r3, h3, q3⟩ := H3
  obtain ⟨r4, h4, q4⟩ := H4
  refine ⟨_, h, fun ns k s mo k0 k1 m1 m6 => ?_⟩
  suffices hx : ∃ o outs, runDf Φ0 c__law_choir_k31 [.sh, .sh, .sh, .sh] [.scr ns, .int k, .int s, .int mo] = .ok o outs ∧ ∃ bs : List Be, o = .val (chT bs) ∧ outs = [.scr ns, .int k, .int s, .int mo] ∧ 1 ≤ bs.length ∧ bs.length ≤ mo ∧ (∀ b ∈ bs, b.Ok bs.length) ∧ (∀ b ∈ bs, NmOk 8 b.nm) ∧ (s = 0 → ∀ b ∈ bs, b.u.wants b.ls.length = b.ls.length) ∧ (s = 1 → ∀ b ∈ bs, b.u.wants b.ls.length = 1) by
    obtain ⟨_, _, h1, us, rfl, rfl, h2⟩ := hx; exact ⟨us, h1, h2⟩
  obtain ⟨t0, e0, p0⟩ := q1 ns k k0 (by omega)
  obtain ⟨t1, c, e1, p1, c0, c1⟩ := q2 t0 mo p0 (by omega) (by omega)
  obtain ⟨t2, d, e2, p2, d0, d1⟩ := q2 t1 3 p1 (by decide) (by decide)
  obtain ⟨t3, g, e3, p3, g0, g1⟩ := q2 t2 3 p2 (by decide) (by decide)
  obtain ⟨c, rfl⟩ := Int.eq_ofNat_of_zero_le c0
  obtain ⟨t4, nms, e4, p4, hn, hok⟩ := q3 t3 (c + 1) p3 (by omega)
  rw [show ((c + 1 : Nat) : Int) = 1 + (c : Int) by omega] at e4
  have hsh : shpT (c + 1) (decide (0 < d)) (decide (g = 0)) nms = .tup [.int (1 + (c : Int)), .bl (decide (0 < d)), .bl (decide (g = 0)), .lst (sL nms)] := by
    show T.tup [.int ((c + 1 : Nat) : Int), _, _, _] = _
    rw [show ((c + 1 : Nat) : Int) = 1 + (c : Int) by omega]
  have bell : ∀ j : Nat, j < c + 1 → ∃ (us ts : List T) (b : Be), r1 [.sh, .sh] [.scr ns, .int (k + 1 + j)] = .ok (.own (.lst ts)) [.scr ns, .int (k + 1 + j)] ∧ r4 [.io, .sh, .sh, .sh] [.lst ts, .int s, .int j, (.tup [.int (1 + (c : Int)), .bl (decide (0 < d)), .bl (decide (g = 0)), .lst (sL nms)])] = .ok (.val b.t) [.lst us, .int s, .int j, (.tup [.int (1 + (c : Int)), .bl (decide (0 < d)), .bl (decide (g = 0)), .lst (sL nms)])] ∧ b.Ok (c + 1) ∧ NmOk 8 b.nm ∧ (s = 0 → b.u.wants b.ls.length = b.ls.length) ∧ (s = 1 → b.u.wants b.ls.length = 1) := fun j hj => by
    obtain ⟨ts, f1, g1⟩ := q1 ns (k + 1 + j) (by omega) (by omega)
    obtain ⟨us, b, f2, g2, f3, f4, f5, f6⟩ := q4 ts s j (c + 1) (decide (0 < d)) (decide (g = 0)) nms g1 hn (by omega) hj
    rw [hsh] at f2
    exact ⟨us, ts, b, f1, f2, f3, hok _ (List.mem_of_getElem? f4), f5, f6⟩
  refine run_ex ⟨rfl, rfl⟩ ⟨_, h1, _, e0, _, h2, _, e1, _, h2, _, e2, _, h2, _, e3, _, h3, _, e4, okR_of (by omega) (by omega), ?_⟩
  refine lcp_rule (fun j acc e => ∃ bs : List Be, e = [some (.sh, .scr ns), vi k, vi s, vi mo, oL t4, vi (1 + c), some (.sh, .bl (decide (0 < d))), some (.sh, .bl (decide (g = 0))), some (.sh, (.tup [.int (1 + (c : Int)), .bl (decide (0 < d)), .bl (decide (g = 0)), .lst (sL nms)])), none] ∧ acc = bs.map Be.t ∧ bs.length = j ∧ (∀ b ∈ bs, b.Ok (c + 1)) ∧ (∀ b ∈ bs, NmOk 8 b.nm) ∧ (s = 0 → ∀ b ∈ bs, b.u.wants b.ls.length = b.ls.length) ∧ (s = 1 → ∀ b ∈ bs, b.u.wants b.ls.length = 1)) ⟨len_le (by simp [rangeT]; omega), [], rfl, rfl, rfl, nofun, nofun, fun _ => nofun, fun _ => nofun⟩ ?_ ?_
  · rintro j t acc e ht hj ⟨bs, rfl, rfl, hl, w1, w2, w3, w4⟩
    obtain ⟨rfl, hk⟩ := range_at ht
    rw [show (0 : Int) + (j : Int) = j by omega]
    obtain ⟨us, ts, b, f1, f2, f3, f4, f5, f6⟩ := bell j (by omega)
    refine ⟨_, h4, _, h1, _, f1, _, f2, bs ++ [b], rfl, (by rw [List.map_append]; rfl), by simp [hl], fun x hx => ?_, fun x hx => ?_, fun hs x hx => ?_, fun hs x hx => ?_⟩
    all_goals rcases List.mem_append.mp hx with q | q
    · exact w1 x q
    · rw [List.mem_singleton.mp q]; exact f3
    · exact w2 x q
    · rw [List.mem_singleton.mp q]; exact f4
    · exact w3 hs x q
    · rw [List.mem_singleton.mp q]; exact f5 hs
    · exact w4 hs x q
    · rw [List.mem_singleton.mp q]; exact f6 hs
  · rintro us e hl' ⟨bs, rfl, rfl, hl, w1, w2, w3, w4⟩
    have hr : (rangeT 0 (1 + (c : Int))).length = c + 1 := by simp [rangeT]; omega
    rw [hr] at hl
    exact ⟨_, rfl, bs, rfl, rfl, by omega, by omega, by rw [hl]; exact w1, w2, w3, w4⟩
end VL

set_option maxHeartbeats 4000000
namespace VL
open PySem PySem.Spec PyProof.Rows L2
/-! ### who hears whom -/
abbrev nT (S : List Nat) : List T := iL (S.map fun n : Nat => (n : Int))
theorem mem_cast {k : Nat} {S : List Nat} : (k : Int) ∈ S.map (fun n : Nat => (n : Int)) ↔ k ∈ S := by
  refine ⟨fun h => ?_, fun h => List.mem_map.mpr ⟨k, h, rfl⟩⟩
  obtain ⟨n, hn, e⟩ := List.mem_map.mp h
  have : n = k := by omega
  rw [← this]; exact hn
/-- a bell listens to another one -/
def Ls (bs : List Be) (v w : Nat) : Prop := ∃ b, bs[v]? = some b ∧ ∃ l ∈ b.ls, l.w = w
inductive Rch (bs : List Be) (b : Nat) : Nat → Prop
  | one {w} : Ls bs b w → Rch bs b w
  | more {v w} : Rch bs b v → Ls bs v w → Rch bs b w
theorem Ls.lt {bs : List Be} (hb : ∀ b ∈ bs, b.Ok bs.length) {v w : Nat} (h : Ls bs v w) : w < bs.length := by
  obtain ⟨b, e, l, hl, rfl⟩ := h
  exact ((hb b (List.mem_of_getElem? e)).ls l hl).1
theorem Rch.lt {bs : List Be} (hb : ∀ b ∈ bs, b.Ok bs.length) {b w : Nat} (h : Rch bs b w) : w < bs.length := by
  cases h with
  | one h => exact h.lt hb
  | more _ h => exact h.lt hb
/-- a set that is closed and holds what the bell listens to holds all that it hears -/
theorem Rch.in {bs : List Be} {b w : Nat} {K : List Nat} (h : Rch bs b w) (h1 : ∀ w, Ls bs b w → w ∈ K) (h2 : ∀ v ∈ K, ∀ w, Ls bs v w → w ∈ K) : w ∈ K := by
  induction h with
  | one h => exact h1 _ h
  | more _ h ih => exact h2 _ ih _ h
/-- numbers, each once, rising -/
def sortN (S : List Nat) : List Int := sortI (dedupI (S.map fun n : Nat => (n : Int)))
theorem mem_sortI {x : Int} {xs : List Int} : x ∈ sortI xs ↔ x ∈ xs := (sortI_perm xs).mem_iff
theorem mem_sortN {k : Int} {S : List Nat} : k ∈ sortN S ↔ ∃ n ∈ S, (n : Int) = k := by
  unfold sortN
  rw [mem_sortI, mem_dedupI, List.mem_map]
theorem nodup_cast {S : List Nat} (h : S.Nodup) : (S.map fun n : Nat => (n : Int)).Nodup := List.Pairwise.map _ (fun a b hab e => hab (by omega)) h
theorem dedup_id : ∀ {xs : List Int}, xs.Nodup → dedupI xs = xs
  | [], _ => rfl
  | x :: xs, h => by
    obtain ⟨h1, h2⟩ := List.nodup_cons.mp h
    unfold dedupI
    rw [if_neg h1, dedup_id h2]
theorem nodup_sortN (S : List Nat) : (sortN S).Nodup := ((sortI_perm _).nodup_iff).mpr (nodup_dedupI _)
theorem sortN_eq {S S' : List Nat} (h : ∀ w, w ∈ S ↔ w ∈ S') : sortN S = sortN S' := by
  refine sorted_unique ((List.perm_ext_iff_of_nodup (nodup_sortN _) (nodup_sortN _)).mpr fun k => ?_) (sortI_sorted _) (sortI_sorted _)
  rw [mem_sortN, mem_sortN]
  exact ⟨fun ⟨n, hn, e⟩ => ⟨n, (h n).mp hn, e⟩, fun ⟨n, hn, e⟩ => ⟨n, (h n).mpr hn, e⟩⟩
theorem sort_nodup {S : List Nat} (h : S.Nodup) : sortI (S.map fun n : Nat => (n : Int)) = sortN S := by
  unfold sortN
  rw [dedup_id (nodup_cast h)]
theorem sortN_back {S : List Nat} : ∀ {xs : List Int}, xs = sortN S → ∃ K : List Nat, xs = K.map (fun n : Nat => (n : Int)) ∧ (∀ w, w ∈ K ↔ w ∈ S) ∧ K.Nodup := by
  intro xs e
  have h0 : ∀ x ∈ xs, 0 ≤ x := fun x hx => by
    rw [e] at hx
    obtain ⟨n, _, rfl⟩ := mem_sortN.mp hx
    omega
  have e1 : xs = (xs.map Int.toNat).map (fun n : Nat => (n : Int)) := by
    rw [List.map_map]
    conv => lhs; rw [← List.map_id xs]
    refine List.map_congr_left fun x hx => ?_
    have := h0 x hx
    show x = ((x.toNat : Nat) : Int)
    omega
  refine ⟨xs.map Int.toNat, e1, fun w => ?_, ?_⟩
  · rw [← mem_cast (k := w) (S := xs.map Int.toNat), ← e1, e, mem_sortN]
    exact ⟨fun ⟨n, hn, q⟩ => by have : n = w := by omega
                                rw [← this]; exact hn, fun h => ⟨w, h, rfl⟩⟩
  · have : xs.Nodup := by rw [e]; exact nodup_sortN S
    rw [e1] at this
    exact List.Pairwise.of_map _ (fun a b hab e => hab (by rw [e])) this
theorem nodup_lt' {S : List Nat} {n : Nat} (h : S.Nodup) (hl : ∀ x ∈ S, x < n) : S.length ≤ n := by
  have := nodup_len (ys := List.range n) h fun x hx => List.mem_range.mpr (hl x hx)
  rw [List.length_range] at this
  exact this
theorem nT_app (K : List Nat) (k : Nat) : nT (K ++ [k]) = nT K ++ [.int k] := by
  show ((K ++ [k]).map _).map _ = _
  rw [List.map_append, List.map_append]
  rfl
theorem cmp_nil (S : List Nat) : cmpT .NotEq (.lst (nT S)) (.lst []) = some (!decide (S = [])) := by
  refine (cmp_eq (datT_lst (datTL_all fun t ht => ?_)) (by unfold datT datTL; rfl) (v := decide (S = [])) ?_ fun s z => by cases z).2
  · obtain ⟨s, hs, rfl⟩ := List.mem_map.mp ht
    unfold datT; rfl
  · rw [eqT_lst]
    cases S with
    | nil => exact eqTL_nil
    | cons s r =>
      show eqTL (T.int s :: nT r) [] = _
      rw [eqTL_cn]; simp
/-- the known ones, as keys -/
abbrev knD (K : List Nat) : T := .dct (nT K) (K.map fun _ => .bl true)
theorem getK_nats (k : Nat) : ∀ K : List Nat, (getK (nT K) (K.map fun _ => .bl true) (.int k)).isSome = decide (k ∈ K)
  | [] => rfl
  | x :: K => by
    have ih := getK_nats k K
    show (if keyEq (.int (x : Int)) (.int (k : Int)) then some (T.bl true) else getK (nT K) (K.map fun _ => .bl true) (.int k)).isSome = _
    by_cases h : x = k
    · subst h
      have e : keyEq (.int (x : Int)) (.int (x : Int)) = true := by simp [keyEq]
      rw [if_pos e]; simp
    · have e : keyEq (.int (x : Int)) (.int (k : Int)) = false := by
        unfold keyEq
        exact decide_eq_false fun z => h (by omega)
      rw [e, if_neg Bool.false_ne_true, ih]
      have hk : ¬ k = x := fun z => h z.symm
      simp [hk]
theorem in_known (k : Nat) (K : List Nat) : inD (knD K) (.int k) = some (decide (k ∈ K)) := by
  show some (getK (nT K) (K.map fun _ => .bl true) (.int k)).isSome = _
  rw [getK_nats]
theorem put_known {k : Nat} {K : List Nat} (h : k ∉ K) (hl : K.length < LIM) : setIx (knD K) (.int k) (.bl true) = some (knD (K ++ [k])) := by
  have hl2 : (ksT (knD K)).1.length < LIM := by
    show (nT K).length < LIM
    simpa using hl
  show (if keyOf (knD K) (.int k) = true ∧ (ksT (knD K)).1.length < LIM then some (reD (knD K) (putK' (.int k) (.bl true) (ksT (knD K)).1 (ksT (knD K)).2)) else none) = _
  rw [if_pos ⟨rfl, hl2⟩]
  show some (reD (knD K) (putK' (.int k) (.bl true) (nT K) (K.map fun _ => .bl true))) = _
  have e : (nT K).any (fun x => keyEq x (.int k)) = false := by
    rw [List.any_eq_false]
    intro t ht
    obtain ⟨x, hx, rfl⟩ := List.mem_map.mp ht
    obtain ⟨n, hn, rfl⟩ := List.mem_map.mp hx
    unfold keyEq
    intro z
    have z := of_decide_eq_true z
    exact h (by have : n = k := by omega
                rw [← this]; exact hn)
  unfold putK'
  rw [e, if_neg Bool.false_ne_true]
  show some (T.dct (nT K ++ [.int k]) (K.map (fun _ => .bl true) ++ [.bl true])) = some (T.dct (nT (K ++ [k])) ((K ++ [k]).map fun _ => .bl true))
  rw [nT_app, List.map_append]
  rfl
def S_hears (Φ : Ft) : Prop := ∃ r, Φ.fn "hears" = some ⟨[.rd, .rd], r⟩ ∧ ∀ (bs : List Be) (b : Nat), (∀ b ∈ bs, b.Ok bs.length) → bs.length ≤ 20 → b < bs.length →
  ∃ S : List Nat, r [.sh, .sh] [chT bs, .int b] = .ok (.own (.lst (iL (sortN S)))) [chT bs, .int b] ∧ ∀ w, w ∈ S ↔ Rch bs b w
theorem p_hears {Φ0 Φ : Ft} (h : Φ.fn "hears" = some (Df.fn Φ0 c_hears)) : S_hears Φ := by
  refine ⟨_, h, fun bs b hb hl hi => ?_⟩
  suffices hx : ∃ o outs, runDf Φ0 c_hears [.sh, .sh] [chT bs, .int b] = .ok o outs ∧ ∃ S : List Nat, o = .own (.lst (iL (sortN S))) ∧ outs = [chT bs, .int b] ∧ ∀ w, w ∈ S ↔ Rch bs b w by
    obtain ⟨_, _, h1, us, rfl, rfl, h2⟩ := hx; exact ⟨us, h1, h2⟩
  refine run_ex ⟨rfl, rfl⟩ ?_
  refine whl_rule (fun n e => ∃ K S : List Nat, e = [some (.sh, chT bs), vi b, some (.own, knD K), oL (nT S), none, none, none] ∧ K.Nodup ∧ (∀ k ∈ K, Rch bs b k) ∧ (∀ s ∈ S, s = b ∨ s ∈ K) ∧ (∀ v, v = b ∨ v ∈ K → v ∈ S ∨ ∀ w, Ls bs v w → w ∈ K) ∧ 2 * (bs.length - K.length) + S.length = n ∧ n ≤ 2 * bs.length + 1) _ ⟨[], [b], rfl, List.nodup_nil, nofun, by simp, fun v hv => .inl (by simpa using hv), rfl, Nat.le_refl _⟩ ?_
  rintro n e ⟨K, S, rfl, hnd, hr, hs, hc, rfl, hmx⟩
  have hK : ∀ k ∈ K, k < bs.length := fun k hk => (hr k hk).lt hb
  have hKl := nodup_lt' hnd hK
  have fin : S = [] → ∀ w, w ∈ K ↔ Rch bs b w := fun z w => by
    subst z
    have cl : ∀ v, v = b ∨ v ∈ K → ∀ w, Ls bs v w → w ∈ K := fun v hv => (hc v hv).resolve_left nofun
    exact ⟨hr w, fun h => h.in (cl b (.inl rfl)) fun v hv => cl v (.inr hv)⟩
  refine ⟨_, cmp_nil S, fun hz => ?_, fun hz => ?_⟩
  · have hne : S ≠ [] := by simpa using hz
    obtain ⟨S0, v, rfl⟩ : ∃ S0 v, S = S0 ++ [v] := ⟨S.dropLast, S.getLast hne, (List.dropLast_concat_getLast hne).symm⟩
    have hv : v = b ∨ v ∈ K := hs v (by simp)
    have hvl : v < bs.length := by rcases hv with rfl | hv; exact hi; exact hK v hv
    obtain ⟨be, ev⟩ : ∃ be, bs[v]? = some be := ⟨_, List.getElem?_eq_getElem hvl⟩
    have pop : mutT .pop (.lst (nT (S0 ++ [v]))) [] = some (.lst (nT S0), .int v) := by
      rw [nT_app]
      show ((nT S0 ++ [T.int v])[(nT S0 ++ [T.int v]).length - 1]?).map (fun y => (T.lst (nT S0 ++ [T.int v]).dropLast, y)) = _
      rw [List.dropLast_concat, List.length_append, List.getElem?_append_right (by simp)]
      simp
    have ib : ixT (chT bs) (.int v) = some be.t := atI_nat (by omega) (by rw [List.getElem?_map, show (v : Int).toNat = v by omega, ev]; rfl)
    refine ⟨_, pop, _, ib, _, rfl, (be.ls.map Li.t, []), rfl, ?_⟩
    have hcv : ∀ u, u = b ∨ u ∈ K → u ∈ S0 ∨ u = v ∨ ∀ w, Ls bs u w → w ∈ K := fun u hu => by
      rcases hc u hu with h | h
      · rcases List.mem_append.mp h with h | h
        · exact .inl h
        · exact .inr (.inl (List.mem_singleton.mp h))
      · exact .inr (.inr h)
    have hl1 : (S0 ++ [v]).length = S0.length + 1 := by simp
    refine for_rule (fun j e => ∃ K' S' : List Nat, e = [some (.sh, chT bs), vi b, some (.own, knD K'), oL (nT S'), none, none, none] ∧ K'.Nodup ∧ (∀ k ∈ K', Rch bs b k) ∧ (∀ s ∈ S', s = b ∨ s ∈ K') ∧ (∀ u, u = b ∨ u ∈ K' → u ∈ S' ∨ u = v ∨ ∀ w, Ls bs u w → w ∈ K') ∧ (∀ (i : Nat) (l : Li), i < j → be.ls[i]? = some l → l.w ∈ K') ∧ 2 * (bs.length - K'.length) + S'.length + 1 ≤ 2 * (bs.length - K.length) + (S0 ++ [v]).length ∧ S'.length ≤ S0.length + j) ⟨K, S0, rfl, hnd, hr, fun s h => hs s (List.mem_append_left _ h), hcv, fun _ _ h => absurd h (Nat.not_lt_zero _), by omega, Nat.le_refl _⟩ ?_ ?_
    · rintro j t e ht ⟨K', S', rfl, nd', r', s', c', p', m', q'⟩
      have ht : (be.ls.map Li.t)[j]? = some t := ht
      rw [List.getElem?_map] at ht
      obtain ⟨l, el, rfl⟩ := Option.map_eq_some_iff.mp ht
      have lw : Ls bs v l.w := ⟨be, ev, l, List.mem_of_getElem? el, rfl⟩
      have rw' : Rch bs b l.w := by
        rcases hv with rfl | hv
        · exact .one lw
        · exact .more (hr v hv) lw
      have hK'l := nodup_lt' nd' fun k hk => (r' k hk).lt hb
      refine ⟨rfl, _, in_known l.w K', fun hz => ?_, fun hz => ?_⟩
      · have hn : l.w ∉ K' := by simpa using hz
        have nd2 : (K' ++ [l.w]).Nodup := by
          rw [List.nodup_append]
          refine ⟨nd', by simp, fun x hx y hy e => ?_⟩
          rw [List.mem_singleton.mp hy] at e
          exact hn (e ▸ hx)
        have r2 : ∀ k ∈ K' ++ [l.w], Rch bs b k := fun k hk => by
          rcases List.mem_append.mp hk with h | h
          · exact r' k h
          · rw [List.mem_singleton.mp h]; exact rw'
        have hK2 := nodup_lt' nd2 fun k hk => (r2 k hk).lt hb
        have hl2 : (K' ++ [l.w]).length = K'.length + 1 := by simp
        refine ⟨_, put_known hn (len_lt (by omega)), len_lt (by simp; omega), K' ++ [l.w], S' ++ [l.w], ?_, nd2, r2, fun s h => ?_, fun u hu => ?_, fun i l' hi' e' => ?_, by simp; omega, by simp; omega⟩
        · rw [nT_app S']; rfl
        · rcases List.mem_append.mp h with h | h
          · exact (s' s h).imp id (List.mem_append_left _)
          · exact .inr (List.mem_append_right _ h)
        · have hu' : u = l.w ∨ u = b ∨ u ∈ K' := by
            rcases hu with h | h
            · exact .inr (.inl h)
            · rcases List.mem_append.mp h with h | h
              · exact .inr (.inr h)
              · exact .inl (List.mem_singleton.mp h)
          rcases hu' with h | h
          · exact .inl (List.mem_append_right _ (List.mem_singleton.mpr h))
          · rcases c' u h with h | h | h
            · exact .inl (List.mem_append_left _ h)
            · exact .inr (.inl h)
            · exact .inr (.inr fun w hw => List.mem_append_left _ (h w hw))
        · by_cases q : i < j
          · exact List.mem_append_left _ (p' i l' q e')
          · have : i = j := by omega
            subst this
            rw [el] at e'; cases e'
            exact List.mem_append_right _ (List.mem_singleton.mpr rfl)
      · have hn : l.w ∈ K' := by simpa using hz
        refine ⟨K', S', rfl, nd', r', s', c', fun i l' hi' e' => ?_, m', by omega⟩
        by_cases q : i < j
        · exact p' i l' q e'
        · have : i = j := by omega
          subst this
          rw [el] at e'; cases e'
          exact hn
    · rintro e ⟨K', S', rfl, nd', r', s', c', p', m', q'⟩
      have hr2 : (be.ls.map Li.t).length = be.ls.length := List.length_map _
      refine ⟨_, Nat.lt_of_succ_le m', K', S', rfl, nd', r', s', fun u hu => ?_, rfl, by omega⟩
      rcases c' u hu with h | h | h
      · exact .inl h
      · refine .inr fun w hw => ?_
        subst h
        obtain ⟨be', eb', l, hll, rfl⟩ := hw
        rw [ev] at eb'; cases eb'
        obtain ⟨i, ei⟩ := List.getElem?_of_mem hll
        exact p' i l (by rw [hr2]; exact (List.getElem?_eq_some_iff.mp ei).1) ei
      · exact .inr h
  · have hS : S = [] := by simpa using hz
    have fin := fin hS
    have e : biT .sorted [knD K] = some (.own (.lst (iL (sortN K)))) := by
      show (intsT (nT K)).bind _ = _
      rw [intsT_iL]
      show (if (K.map fun n : Nat => (n : Int)).length < 64 then _ else _) = _
      rw [if_pos (by rw [List.length_map]; omega), sort_nodup hnd]
    exact ⟨_, e, _, rfl, K, rfl, rfl, fin⟩
theorem sset_n (S : List Nat) (h : S.length < 63) : biT .sortedSet [.lst (nT S)] = some (.own (.lst (iL (sortN S)))) := by
  show (intsT (nT S)).bind _ = _
  rw [intsT_iL]
  show (if (S.map fun n : Nat => (n : Int)).length < 63 then _ else _) = _
  rw [if_pos (by rw [List.length_map]; exact h)]
  rfl
theorem ls_mem {bs : List Be} {v : Nat} {be : Be} (e : bs[v]? = some be) {w : Nat} : w ∈ be.ls.map Li.w ↔ Ls bs v w := by
  rw [List.mem_map]
  refine ⟨fun h => ⟨be, e, h⟩, fun ⟨b, eb, h⟩ => ?_⟩
  rw [e] at eb; cases eb
  exact h
def S__law_gathered_k31 (Φ : Ft) : Prop := ∃ r, Φ.fn "_law_gathered" = some ⟨[.rd, .rd], r⟩ ∧ ∀ (bs : List Be) (b : Nat), (∀ b ∈ bs, b.Ok bs.length) → bs.length ≤ 6 → b < bs.length →
  ∃ S : List Nat, r [.sh, .sh] [chT bs, .int b] = .ok (.own (.lst (iL (sortN S)))) [chT bs, .int b] ∧ ∀ w, w ∈ S ↔ Rch bs b w
theorem p__law_gathered_k31 {Φ0 Φ : Ft} (h : Φ.fn "_law_gathered" = some (Df.fn Φ0 c__law_gathered_k31)) : S__law_gathered_k31 Φ := by
  refine ⟨_, h, fun bs b hb hl hi => ?_⟩
  suffices hx : ∃ o outs, runDf Φ0 c__law_gathered_k31 [.sh, .sh] [chT bs, .int b] = .ok o outs ∧ ∃ S : List Nat, o = .own (.lst (iL (sortN S))) ∧ outs = [chT bs, .int b] ∧ ∀ w, w ∈ S ↔ Rch bs b w by
    obtain ⟨_, _, h1, us, rfl, rfl, h2⟩ := hx; exact ⟨us, h1, h2⟩
  have hlm : (bs.map Be.t).length = bs.length := List.length_map _
  obtain ⟨be, eb⟩ : ∃ be, bs[b]? = some be := ⟨_, List.getElem?_eq_getElem hi⟩
  have ixb : ∀ (v : Nat) (be : Be), bs[v]? = some be → ixT (chT bs) (.int v) = some be.t := fun v be e => atI_nat (by omega) (by rw [List.getElem?_map, show (v : Int).toNat = v by omega, e]; rfl)
  have ln : ∀ (v : Nat) (be : Be), bs[v]? = some be → 1 ≤ be.ls.length ∧ be.ls.length ≤ 6 := fun v be e => (hb be (List.mem_of_getElem? e)).len
  have lb := ln b be eb
  have wm : ∀ be : Be, nT (be.ls.map Li.w) = be.ls.map fun l => T.int l.w := fun be => by
    show ((be.ls.map _).map _).map _ = _
    rw [List.map_map, List.map_map]
    rfl
  refine run_ex ⟨rfl, rfl⟩ ⟨_, ixb b be eb, _, rfl, (be.ls.map Li.t, []), rfl, ?_⟩
  refine lc_rule (nT (be.ls.map Li.w)) ⟨⟨by simp, len_le (by simp; omega)⟩, fun j t u f1 f2 => ?_, ?_⟩
  · rw [List.getElem?_map] at f1
    obtain ⟨l, el, rfl⟩ := Option.map_eq_some_iff.mp f1
    rw [wm, List.getElem?_map, el] at f2
    cases f2
    exact ⟨_, rfl, rfl, rfl⟩
  refine ⟨_, sset_n _ (by simp; omega), (bs.map Be.t, []), rfl, ?_⟩
  obtain ⟨K0, k1, k2, k3⟩ := sortN_back (S := be.ls.map Li.w) rfl
  rw [k1]
  refine for_rule (fun t e => ∃ K : List Nat, e = [some (.sh, chT bs), vi b, oL (nT K), none, none, none, none] ∧ K.map (fun n : Nat => (n : Int)) = sortN K ∧ K.Nodup ∧ (∀ k ∈ K, Rch bs b k) ∧ (∀ w, Ls bs b w → w ∈ K) ∧ ((∀ v ∈ K, ∀ w, Ls bs v w → w ∈ K) ∨ t + 1 ≤ K.length)) ⟨K0, rfl, ?_, k3, fun k hk => .one ((ls_mem eb).mp ((k2 k).mp hk)), fun w hw => (k2 w).mpr ((ls_mem eb).mpr hw), .inr ?_⟩ ?_ ?_
  · rw [← k1]
    exact sortN_eq fun w => (k2 w).symm
  · cases hx : be.ls with
    | nil => rw [hx] at lb; simp at lb
    | cons l r =>
      have : l.w ∈ K0 := (k2 l.w).mpr (by rw [hx]; simp)
      exact List.length_pos_of_mem this
  · rintro t u e ht ⟨K, rfl, ks, nd, hr, h1, h2⟩
    have ht : (bs.map Be.t)[t]? = some u := ht
    rw [List.getElem?_map] at ht
    obtain ⟨tb, _, rfl⟩ := Option.map_eq_some_iff.mp ht
    have hK : ∀ k ∈ K, k < bs.length := fun k hk => (hr k hk).lt hb
    have hKl := nodup_lt' nd hK
    refine ⟨(nT K, []), rfl, ?_⟩
    refine for_rule (fun j e => ∃ (f : Fl) (M : List Nat), e = [some (.sh, chT bs), vi b, some (.sh, .lst (nT K)), none, some (.sh, tb.t), some (f, .lst (nT M)), none] ∧ (f = .sh ∨ f = .own) ∧ (∀ w, w ∈ M ↔ w ∈ K ∨ ∃ i v, i < j ∧ K[i]? = some v ∧ Ls bs v w) ∧ M.length ≤ K.length + 6 * j) ⟨.sh, K, rfl, .inl rfl, fun w => ⟨.inl, fun h => h.elim id fun ⟨i, _, hi, _⟩ => absurd hi (Nat.not_lt_zero _)⟩, Nat.le_refl _⟩ ?_ ?_
    · rintro j t e ht ⟨f, M, rfl, hf, hm, hml⟩
      have ht : (nT K)[j]? = some t := ht
      rw [List.getElem?_map, List.getElem?_map] at ht
      obtain ⟨x, ex, rfl⟩ := Option.map_eq_some_iff.mp ht
      obtain ⟨v, ev, rfl⟩ := Option.map_eq_some_iff.mp ex
      obtain ⟨be', eb'⟩ : ∃ be, bs[v]? = some be := ⟨_, List.getElem?_eq_getElem (hK v (List.mem_of_getElem? ev))⟩
      have hj : j < K.length := (List.getElem?_eq_some_iff.mp ev).1
      have lb' := ln v be' eb'
      have ea : nT (M ++ be'.ls.map Li.w) = nT M ++ nT (be'.ls.map Li.w) := by
        show ((M ++ _).map _).map _ = _
        rw [List.map_append, List.map_append]
      have mem2 : ∀ w, w ∈ M ++ be'.ls.map Li.w ↔ w ∈ K ∨ ∃ i v, i < j + 1 ∧ K[i]? = some v ∧ Ls bs v w := fun w => by
        rw [List.mem_append, hm w, ls_mem eb']
        constructor
        · rintro ((h | ⟨i, v', hi, e1, e2⟩) | h)
          · exact .inl h
          · exact .inr ⟨i, v', by omega, e1, e2⟩
          · exact .inr ⟨j, v, by omega, ev, h⟩
        · rintro (h | ⟨i, v', hi, e1, e2⟩)
          · exact .inl (.inl h)
          · by_cases q : i < j
            · exact .inl (.inr ⟨i, v', q, e1, e2⟩)
            · have : i = j := by omega
              subst this
              rw [ev] at e1; cases e1
              exact .inr e2
      have hml2 : (M ++ be'.ls.map Li.w).length ≤ K.length + 6 * (j + 1) := by simp; omega
      have go : wSs Φ0 (match (match c__law_gathered_k31.body.getD 1 .pass with | .forr _ _ b _ => b | _ => []).getD 1 .pass with | .forr _ _ b _ => b | _ => []) [some (.sh, chT bs), vi b, some (.sh, .lst (nT K)), none, some (.sh, tb.t), some (f, .lst (nT M)), vi v] (loopK [6] (fun e => ∃ (f : Fl) (M : List Nat), e = [some (.sh, chT bs), vi b, some (.sh, .lst (nT K)), none, some (.sh, tb.t), some (f, .lst (nT M)), none] ∧ (f = .sh ∨ f = .own) ∧ (∀ w, w ∈ M ↔ w ∈ K ∨ ∃ i v, i < j + 1 ∧ K[i]? = some v ∧ Ls bs v w) ∧ M.length ≤ K.length + 6 * (j + 1)) fun f e2 => seqK (wSs Φ0 ((match c__law_gathered_k31.body.getD 1 .pass with | .forr _ _ b _ => b | _ => []).drop 2)) (loopK [5, 4, 6] (fun e => ∃ K : List Nat, e = [some (.sh, chT bs), vi b, oL (nT K), none, none, none, none] ∧ K.map (fun n : Nat => (n : Int)) = sortN K ∧ K.Nodup ∧ (∀ k ∈ K, Rch bs b k) ∧ (∀ w, Ls bs b w → w ∈ K) ∧ ((∀ v ∈ K, ∀ w, Ls bs v w → w ∈ K) ∨ t + 1 + 1 ≤ K.length)) fun f e2 => seqK (wSs Φ0 [.ret (.slot 2)]) (runQ [.sh, .sh] [chT bs, .int b] fun o outs => ∃ S : List Nat, o = .own (.lst (iL (sortN S))) ∧ outs = [chT bs, .int b] ∧ ∀ w, w ∈ S ↔ Rch bs b w) (fun _ _ => False) f (unlock e2 (List.map Be.t bs, ([] : List Nat)).snd)) (fun _ _ => False) f (unlock e2 ((nT K, ([] : List Nat)).snd))) fun _ _ => False := by
        rcases hf with rfl | rfl
        all_goals
          refine ⟨_, ixb v be' eb', _, rfl, (be'.ls.map Li.t, []), rfl, ?_⟩
          refine lc_rule (nT (be'.ls.map Li.w)) ⟨⟨by simp, len_le (by simp; omega)⟩, fun j t u f1 f2 => ?_, ?_⟩
          · rw [List.getElem?_map] at f1
            obtain ⟨l, el, rfl⟩ := Option.map_eq_some_iff.mp f1
            rw [wm, List.getElem?_map, el] at f2
            cases f2
            exact ⟨_, rfl, rfl, rfl⟩
          refine ⟨len_le (by simp; omega), .own, M ++ be'.ls.map Li.w, ?_, .inr rfl, mem2, hml2⟩
          rw [ea]
      exact go
    · rintro e ⟨f, M, rfl, hf, hm, hml⟩
      have hlK : (nT K).length = K.length := by simp
      have hm2 : ∀ w, w ∈ M ↔ w ∈ K ∨ ∃ v ∈ K, Ls bs v w := fun w => by
        rw [hm w]
        refine or_congr Iff.rfl ⟨fun ⟨i, v, hi, e1, e2⟩ => ⟨v, List.mem_of_getElem? e1, e2⟩, fun ⟨v, hv, e2⟩ => ?_⟩
        obtain ⟨i, ei⟩ := List.getElem?_of_mem hv
        exact ⟨i, v, by show i < (nT K).length; rw [hlK]; exact (List.getElem?_eq_some_iff.mp ei).1, ei, e2⟩
      have hml : M.length ≤ K.length + 6 * (nT K).length := hml
      obtain ⟨K2, k1, k2, k3⟩ := sortN_back (S := M) rfl
      have ss := sset_n M (by omega)
      rw [k1] at ss
      have P : K2.map (fun n : Nat => (n : Int)) = sortN K2 ∧ K2.Nodup ∧ (∀ k ∈ K2, Rch bs b k) ∧ (∀ w, Ls bs b w → w ∈ K2) ∧ ((∀ v ∈ K2, ∀ w, Ls bs v w → w ∈ K2) ∨ t + 1 + 1 ≤ K2.length) := by
        have sub : ∀ w ∈ K, w ∈ K2 := fun w hw => (k2 w).mpr ((hm2 w).mpr (.inl hw))
        refine ⟨?_, k3, fun k hk => ?_, fun w hw => sub w (h1 w hw), ?_⟩
        · rw [← k1]
          exact sortN_eq fun w => (k2 w).symm
        · rcases (hm2 k).mp ((k2 k).mp hk) with h | ⟨v, hv, h⟩
          · exact hr k h
          · exact .more (hr v hv) h
        · by_cases cl : ∀ v ∈ K, ∀ w, Ls bs v w → w ∈ K
          · left
            have eq : ∀ w ∈ K2, w ∈ K := fun w hw => by
              rcases (hm2 w).mp ((k2 w).mp hw) with h | ⟨v, hv, h⟩
              · exact h
              · exact cl v hv w h
            exact fun v hv w hw => sub w (cl v (eq v hv) w hw)
          · right
            have h2 := h2.resolve_left cl
            have : ∃ w, w ∈ K2 ∧ w ∉ K := by
              refine Classical.byContradiction fun no => cl fun v hv w hw => Classical.byContradiction fun nw => no ⟨w, ?_, nw⟩
              exact (k2 w).mpr ((hm2 w).mpr (.inr ⟨v, hv, hw⟩))
            obtain ⟨w, hw, nw⟩ := this
            have := nodup_len (xs := w :: K) (ys := K2) (List.nodup_cons.mpr ⟨nw, nd⟩) fun x hx => by
              rcases List.mem_cons.mp hx with rfl | h
              · exact hw
              · exact sub x h
            rw [List.length_cons] at this
            omega
      rcases hf with rfl | rfl <;> exact ⟨_, ss, K2, rfl, P⟩
  · rintro e ⟨K, rfl, ks, nd, hr, h1, h2⟩
    have hKl := nodup_lt' nd fun k hk => (hr k hk).lt hb
    have cl := h2.resolve_right (by show ¬ (bs.map Be.t).length + 1 ≤ K.length; omega)
    refine ⟨_, rfl, K, by rw [← ks], rfl, fun w => ⟨hr w, fun h => h.in h1 cl⟩⟩
theorem any_bls (bs : List Bool) : biT .any [.lst (bs.map T.bl)] = some (.val (.bl (bs.any id))) := by
  have : ∀ bs : List Bool, blsT (bs.map T.bl) = some bs := fun bs => by
    induction bs with
    | nil => rfl
    | cons b bs ih => show (blsT (bs.map T.bl)).map _ = _; rw [ih]; rfl
  show (blsT _).map _ = _
  rw [this]
  rfl
def S__law_is_k31 (Φ : Ft) : Prop := ∃ r, Φ.fn "_law_is" = some ⟨[.rd, .rd], r⟩ ∧ ∀ (xs ys : List Int) (m m' : Md), xs.length ≤ 100 → m ≠ .io → m' ≠ .io →
  r [m, m'] [.lst (iL xs), .lst (iL ys)] = .ok (.val (.bl (decide (xs = ys)))) [.lst (iL xs), .lst (iL ys)]
theorem p__law_is_k31 {Φ0 Φ : Ft} (h : Φ.fn "_law_is" = some (Df.fn Φ0 c__law_is_k31)) : S__law_is_k31 Φ := by
  refine ⟨_, h, fun xs ys m m' hl hm hm' => ?_⟩
  have nb : ∀ xs : List Int, ((xs.map fun _ => false).any id) = false := fun xs => by simp
  rcases md2 hm with rfl | rfl <;> rcases md2 hm' with rfl | rfl
  all_goals
    refine run_rule ⟨rfl, rfl⟩ ⟨(iL xs, _), rfl, ?_⟩
    refine lc_rule ((xs.map fun _ => false).map T.bl) ⟨⟨by simp, len_le (by simp; omega)⟩, fun j t u f1 f2 => ?_, ?_⟩
    · rw [List.getElem?_map] at f1
      obtain ⟨l, el, rfl⟩ := Option.map_eq_some_iff.mp f1
      rw [List.getElem?_map, List.getElem?_map, el] at f2
      cases f2
      exact ⟨_, rfl, rfl, rfl⟩
    refine ⟨_, any_bls _, ?_⟩
    rw [nb]
    refine ⟨nofun, fun _ => ?_⟩
    exact ⟨_, (cmp_iL xs ys).1, _, rfl, rfl⟩
theorem rangeS_at {lo hi st : Int} {k : Nat} {t : T} (h : (rangeS lo hi st)[k]? = some t) (h0 : 0 < st) : t = .int (lo + k * st) ∧ lo + k * st < hi := by
  unfold rangeS at h
  rw [List.getElem?_map] at h
  obtain ⟨j, hj, rfl⟩ := Option.map_eq_some_iff.mp h
  obtain ⟨hlt, e⟩ := List.getElem?_eq_some_iff.mp hj
  rw [List.getElem_range] at e
  subst e
  rw [List.length_range] at hlt
  refine ⟨rfl, ?_⟩
  have h1 : (k : Int) + 1 ≤ (hi - lo + st - 1) / st := by omega
  have h2 := (Int.le_ediv_iff_mul_le h0).mp h1
  rw [Int.add_mul] at h2
  omega
theorem p_law_k31 {Φ0 Φ : Ft} (h : Φ.fn "law" = some (Df.fn Φ0 c_law_k31)) (H1 : S__law_choir_k31 Φ0) (H2 : S_hears Φ0) (H3 : S__law_gathered_k31 Φ0) (H4 : S__law_is_k31 Φ0) : S_law Φ := by
  obtain ⟨r1, h1, q1⟩ := H1
  obtain ⟨r2, h2, q2⟩ := H2
  obtain ⟨r3, h3, q3⟩ := H3
  obtain ⟨r4, h4, q4⟩ := H4
  refine ⟨_, h, fun ns hns => ?_⟩
  have hmx : okR (max 2 (min (ns.length : Int) 63)) = true := okR_of (by omega) (by omega)
  have ok1 : okR 1 = true := okR_of (by decide) (by decide)
  refine run_rule ⟨rfl, rfl⟩ ⟨by rw [ok1, hmx]; rfl, ?_⟩
  refine for_rule (fun _ e => e = [some (.sh, .scr ns), none, none, none, none]) rfl ?_ ?_
  · rintro j t e ht rfl
    obtain ⟨rfl, hj⟩ := rangeS_at ht (by decide)
    obtain ⟨bs, e1, b1, b6, hok, _⟩ := q1 ns (1 + (j : Int) * 7) 2 6 (by omega) (by omega) (by decide) (by decide)
    have same : ∀ b : Nat, b < bs.length → ∃ L : List Int, L.length ≤ 90 ∧ r2 [.sh, .sh] [chT bs, .int b] = .ok (.own (.lst (iL L))) [chT bs, .int b] ∧ r3 [.sh, .sh] [chT bs, .int b] = .ok (.own (.lst (iL L))) [chT bs, .int b] := fun b hb => by
      obtain ⟨S, f1, m1⟩ := q2 bs b hok (by omega) hb
      obtain ⟨S', f2, m2⟩ := q3 bs b hok b6 hb
      rw [sortN_eq (S := S') (S' := S) fun w => (m2 w).trans (m1 w).symm] at f2
      refine ⟨sortN S, ?_, f1, f2⟩
      obtain ⟨K, k1, k2, k3⟩ := sortN_back (S := S) rfl
      rw [k1, List.length_map]
      have := nodup_lt' k3 fun k hk => ((m1 k).mp ((k2 k).mp hk)).lt hok
      omega
    refine ⟨_, h1, _, e1, okR_of (by simp <;> omega) (by simp <;> omega), ?_⟩
    refine for_rule (fun _ e => ∃ L : List Int, L.length ≤ 90 ∧ e = [some (.sh, .scr ns), vi (1 + (j : Int) * 7), some (.sh, chT bs), oL (iL L), none]) ⟨[], by decide, rfl⟩ ?_ ?_
    · rintro k t e ht ⟨L, hL, rfl⟩
      obtain ⟨rfl, hk⟩ := range_at ht
      rw [List.length_map] at hk
      rw [show (0 : Int) + (k : Int) = k by omega]
      obtain ⟨L2, l2, f1, f2⟩ := same k (by omega)
      have f3 := q4 L2 L2 .bor .sh (by omega) (by decide) (by decide)
      rw [decide_eq_true rfl] at f3
      refine ⟨_, h2, _, f1, _, h4, _, h3, _, f2, _, f3, fun _ => ⟨L2, l2, rfl⟩, nofun⟩
    · rintro e ⟨L, hL, rfl⟩
      refine ⟨len_lt (by simp; omega), ?_⟩
      have hl : ((bs.map Be.t).length : Int) - 1 = ((bs.length - 1 : Nat) : Int) := by rw [List.length_map]; omega
      obtain ⟨L2, l2, f1, f2⟩ := same (bs.length - 1) (by omega)
      have f3 := q4 L2 L2 .sh .sh (by omega) (by decide) (by decide)
      rw [decide_eq_true rfl] at f3
      rw [← hl] at f1 f2
      exact ⟨_, h4, _, h2, _, f1, _, h3, _, f2, _, f3, fun _ => rfl, nofun⟩
  · rintro e rfl
    exact ⟨_, rfl, rfl⟩
end VL

set_option maxHeartbeats 4000000
namespace VL
open PySem PySem.Spec PyProof.Rows L2
abbrev pw : Program := PySem.Challenge.pw_earbells_k31_who_hears
def top (i : Nat) : Stmt := pw.main.body.getD i (.Pass ⟨0, 0, 0, 0⟩)
def cin (s : Stmt) (j : Nat) : Stmt := match s with
  | .ClassDef _ _ _ body _ _ _ _ _ _ _ => body.getD j (.Pass ⟨0, 0, 0, 0⟩)
  | _ => .Pass ⟨0, 0, 0, 0⟩
def gs : List (Str × Gc) := []
def gl : Mi := ⟨glOf gs⟩
def tab0 : List Dx := []
theorem ok0 : Tab gl 60 tab0 := .nil
def x0 : Dx := ⟨"hears", top 1, ["choir", "bell", "known", "todo", "whom", "beats", "back"], ["choir", "bell"], false, c_hears, [(0, [2]), (5, [6, 5, 4]), (6, [6, 5, 4])], .fn, "hears", [], false⟩
def tab1 : List Dx := x0 :: tab0
theorem ok1 : Tab gl 60 tab1 := .cons ⟨⟨rfl, rfl, rfl, by decide +kernel, rfl, by decide +kernel, by decide +kernel⟩, by kernel_rfl, rfl, rfl, fun _ _ _ _ _ _ us hl => match us, hl with | [_, _], _ => rfl⟩ trivial (fun z => nomatch z) ok0
def x1 : Dx := ⟨"_law_pack", top 3, ["_law_script", "_law_k"], ["_law_script", "_law_k"], false, c__law_pack, [], .fn, "_law_pack", [], false⟩
def tab2 : List Dx := x1 :: tab1
theorem ok2 : Tab gl 60 tab2 := .cons ⟨⟨rfl, rfl, rfl, by decide +kernel, rfl, by decide +kernel, by decide +kernel⟩, by kernel_rfl, rfl, rfl, fun _ _ _ _ _ _ us hl => match us, hl with | [_, _], _ => rfl⟩ trivial (fun z => nomatch z) ok1
def x2 : Dx := ⟨"_law_take", top 4, ["_law_pack_here", "_law_many", "_law_digit"], ["_law_pack_here", "_law_many"], false, c__law_take, [], .fn, "_law_take", [], false⟩
def tab3 : List Dx := x2 :: tab2
theorem ok3 : Tab gl 60 tab3 := .cons ⟨⟨rfl, rfl, rfl, by decide +kernel, rfl, by decide +kernel, by decide +kernel⟩, by kernel_rfl, rfl, rfl, fun _ _ _ _ _ _ us hl => match us, hl with | [_, _], _ => rfl⟩ trivial (fun z => nomatch z) ok2
def x3 : Dx := ⟨"_law_names", top 5, ["_law_pack_here", "_law_many", "_law_letters", "_law_first", "_law_k", "_law_stem", "_law_at", "_law_names_here", "_law_name"], ["_law_pack_here", "_law_many"], false, c__law_names_k31, [(30, [4, 8])], .fn, "_law_names", [], false⟩
def tab4 : List Dx := x3 :: tab3
theorem ok4 : Tab gl 60 tab4 := .cons ⟨⟨rfl, rfl, rfl, by decide +kernel, rfl, by decide +kernel, by decide +kernel⟩, by kernel_rfl, rfl, rfl, fun _ _ _ _ _ _ us hl => match us, hl with | [_, _], _ => rfl⟩ trivial (fun z => nomatch z) ok3
def x4 : Dx := ⟨"_law_rule", top 6, ["_law_pack_here", "_law_sort", "_law_many", "_law_pick", "_law_k"], ["_law_pack_here", "_law_sort", "_law_many"], false, c__law_rule, [], .fn, "_law_rule", [], false⟩
def tab5 : List Dx := x4 :: tab4
theorem ok5 : Tab gl 60 tab5 := .cons ⟨⟨rfl, rfl, rfl, by decide +kernel, rfl, by decide +kernel, by decide +kernel⟩, by kernel_rfl, rfl, rfl, fun _ _ _ _ _ _ us hl => match us, hl with | [_, _, _], _ => rfl⟩ trivial (fun z => nomatch z) ok4
def x5 : Dx := ⟨"_law_bell", top 7, ["_law_pack_here", "_law_sort", "_law_place", "_law_shape", "_law_many", "_law_safe", "_law_great", "_law_names_here", "_law_start", "_law_listenings", "_law_j", "_law_whom", "_law_beats", "_law_back"], ["_law_pack_here", "_law_sort", "_law_place", "_law_shape"], false, c__law_bell_k31, [(47, [13, 12, 10, 11])], .fn, "_law_bell", [], false⟩
def tab6 : List Dx := x5 :: tab5
theorem ok6 : Tab gl 60 tab6 := .cons ⟨⟨rfl, rfl, rfl, by decide +kernel, rfl, by decide +kernel, by decide +kernel⟩, by kernel_rfl, rfl, rfl, fun _ _ _ _ _ _ us hl => match us, hl with | [_, _, _, _], _ => rfl⟩ trivial (fun z => nomatch z) ok5
def x6 : Dx := ⟨"_law_choir", top 8, ["_law_script", "_law_k", "_law_sort", "_law_most", "_law_pack_here", "_law_many", "_law_safe", "_law_great", "_law_shape", "_law_place"], ["_law_script", "_law_k", "_law_sort", "_law_most"], false, c__law_choir_k31, [], .fn, "_law_choir", [], false⟩
def tab7 : List Dx := x6 :: tab6
theorem ok7 : Tab gl 60 tab7 := .cons ⟨⟨rfl, rfl, rfl, by decide +kernel, rfl, by decide +kernel, by decide +kernel⟩, by kernel_rfl, rfl, rfl, fun _ _ _ _ _ _ us hl => match us, hl with | [_, _, _, _], _ => rfl⟩ trivial (fun z => nomatch z) ok6
def x7 : Dx := ⟨"_law_gathered", top 9, ["_law_choir_here", "_law_bell_here", "_law_known", "_law_one", "_law_turn", "_law_more", "_law_whom"], ["_law_choir_here", "_law_bell_here"], false, c__law_gathered_k31, [(64, [5, 4, 6]), (66, [6])], .fn, "_law_gathered", [], false⟩
def tab8 : List Dx := x7 :: tab7
theorem ok8 : Tab gl 60 tab8 := .cons ⟨⟨rfl, rfl, rfl, by decide +kernel, rfl, by decide +kernel, by decide +kernel⟩, by kernel_rfl, rfl, rfl, fun _ _ _ _ _ _ us hl => match us, hl with | [_, _], _ => rfl⟩ trivial (fun z => nomatch z) ok7
def x8 : Dx := ⟨"_law_is", top 10, ["_law_found", "_law_due", "_law_one"], ["_law_found", "_law_due"], false, c__law_is_k31, [], .fn, "_law_is", [], false⟩
def tab9 : List Dx := x8 :: tab8
theorem ok9 : Tab gl 60 tab9 := .cons ⟨⟨rfl, rfl, rfl, by decide +kernel, rfl, by decide +kernel, by decide +kernel⟩, by kernel_rfl, rfl, rfl, fun _ _ _ _ _ _ us hl => match us, hl with | [_, _], _ => rfl⟩ trivial (fun z => nomatch z) ok8
def x9 : Dx := ⟨"law", top 11, ["_law_script", "_law_k", "_law_choir_here", "_law_found", "_law_bell_here"], ["_law_script"], false, c_law_k31, [(75, [4, 2, 3, 1]), (78, [4])], .fn, "law", [], false⟩
def tab10 : List Dx := x9 :: tab9
theorem ok10 : Tab gl 60 tab10 := .cons ⟨⟨rfl, rfl, rfl, by decide +kernel, rfl, by decide +kernel, by decide +kernel⟩, by kernel_rfl, rfl, rfl, fun _ _ _ _ _ _ us hl => match us, hl with | [_], _ => rfl⟩ trivial (fun z => nomatch z) ok9
def Rs : List Str := []
def Bs : List Str := []
theorem shs : ∀ e ∈ tab10, ShOk Rs Bs tab10 e := List.forall_mem_cons.mpr ⟨.fn rfl, List.forall_mem_cons.mpr ⟨.fn rfl, List.forall_mem_cons.mpr ⟨.fn rfl, List.forall_mem_cons.mpr ⟨.fn rfl, List.forall_mem_cons.mpr ⟨.fn rfl, List.forall_mem_cons.mpr ⟨.fn rfl, List.forall_mem_cons.mpr ⟨.fn rfl, List.forall_mem_cons.mpr ⟨.fn rfl, List.forall_mem_cons.mpr ⟨.fn rfl, List.forall_mem_cons.mpr ⟨.fn rfl, fun _ h => by cases h⟩⟩⟩⟩⟩⟩⟩⟩⟩⟩
end VL

set_option maxHeartbeats 4000000
namespace VL
open PySem PySem.Spec PyProof.Rows L2
theorem at_hears {Φ : Ft} (h : Φ.fn "hears" = some (Df.fn (phi tab0) c_hears)) : S_hears Φ := p_hears h 
theorem at__law_pack {Φ : Ft} (h : Φ.fn "_law_pack" = some (Df.fn (phi tab1) c__law_pack)) : S__law_pack Φ := p__law_pack h 
theorem at__law_take {Φ : Ft} (h : Φ.fn "_law_take" = some (Df.fn (phi tab2) c__law_take)) : S__law_take Φ := p__law_take h 
theorem at__law_names {Φ : Ft} (h : Φ.fn "_law_names" = some (Df.fn (phi tab3) c__law_names_k31)) : S__law_names_k31 Φ := p__law_names_k31 h (at__law_take rfl)
theorem at__law_rule {Φ : Ft} (h : Φ.fn "_law_rule" = some (Df.fn (phi tab4) c__law_rule)) : S__law_rule Φ := p__law_rule h (at__law_take rfl)
theorem at__law_bell {Φ : Ft} (h : Φ.fn "_law_bell" = some (Df.fn (phi tab5) c__law_bell_k31)) : S__law_bell_k31 Φ := p__law_bell_k31 h (at__law_take rfl) (at__law_rule rfl)
theorem at__law_choir {Φ : Ft} (h : Φ.fn "_law_choir" = some (Df.fn (phi tab6) c__law_choir_k31)) : S__law_choir_k31 Φ := p__law_choir_k31 h (at__law_pack rfl) (at__law_take rfl) (at__law_names rfl) (at__law_bell rfl)
theorem at__law_gathered {Φ : Ft} (h : Φ.fn "_law_gathered" = some (Df.fn (phi tab7) c__law_gathered_k31)) : S__law_gathered_k31 Φ := p__law_gathered_k31 h 
theorem at__law_is {Φ : Ft} (h : Φ.fn "_law_is" = some (Df.fn (phi tab8) c__law_is_k31)) : S__law_is_k31 Φ := p__law_is_k31 h 
theorem at_law {Φ : Ft} (h : Φ.fn "law" = some (Df.fn (phi tab9) c_law_k31)) : S_law Φ := p_law_k31 h (at__law_choir rfl) (at_hears rfl) (at__law_gathered rfl) (at__law_is rfl)

end VL

set_option maxHeartbeats 0
namespace VL
open PySem PySem.Spec PyProof.Rows L2
abbrev rw0 : PySem.W.OpenLaw := PySem.Challenge.rw_earbells_k31_who_hears
abbrev R0 : PySem.W.OpenRow := PySem.W.OpenLaw.row rw0
abbrev hk : PySem.W.Hook := hookE 5 (faOf tab10 gs) (tab10.flatMap ddOf) (exB Rs Bs gs (xsOf tab10) (csOf tab10))
def ob0 (s : PySem.W.SharedT) : AlE := obsE 5 (faOf tab10 gs) (tab10.flatMap ddOf) (exB Rs Bs gs (xsOf tab10) (csOf tab10)) (HandSHeadRun.getT s)
theorem ob0_eq (s : PySem.W.SharedT) : ob0 s = hk.obs s.abs := obsE_eq (HandSHeadRun.getT_eq s)
def loose0 : List Str := [("hears" : Str), ("_law_pack" : Str), ("_law_take" : Str), ("_law_names" : Str), ("_law_rule" : Str), ("_law_bell" : Str), ("_law_choir" : Str), ("_law_gathered" : Str), ("_law_is" : Str)]
theorem run0 (w : World) : HandSHeadRun.RunEq R0 (PySem.W.view R0.prog [11]) hk ob0 8000 loose0 w := by
  intro os
  kernel_rfl
def Plain : Prop := ∀ ns : List Int, ns.length ≤ 63 → ∃ o, (Df.fn (phi tab9) c_law_k31).run [.sh] [.scr ns] = .ok (.val (.bl true)) o ∧ o.length = 1
end VL
open PySem PySem.W PySem.Calls PyProof.Rows
theorem VL.holds_of (plain : VL.Plain) : PySem.Challenge.rw_earbells_k31_who_hears.Holds := by
  w_on; o_law
  refine HandSHeadRun.head_any (r := OpenLaw.row PySem.Challenge.rw_earbells_k31_who_hears) (q := view (OpenLaw.row PySem.Challenge.rw_earbells_k31_who_hears).prog [11]) (H := VL.hk) (ob := VL.ob0) (M := 8000) (loose := VL.loose0) (d := HandSHeadRun.topDef (OpenLaw.row PySem.Challenge.rw_earbells_k31_who_hears).prog 11) (kwd := []) VL.ob0_eq
    (by kernel_rfl) (fun s => by kernel_rfl) VL.run0 (by kernel_rfl) (by kernel_rfl) (by kernel_rfl) (by rfl) (by first | assumption | decide +kernel) (by decide +kernel) ⟨rfl, rfl, rfl, rfl, rfl, by decide +kernel⟩ ?hw ?hc
  case hw => w_witness2
  case hc =>
    refine L2.walk_ofE (l := PySem.Challenge.rw_earbells_k31_who_hears) (n := 63) (k := 14) (x := "_law_script") (CX := VL.CXA (PySem.Challenge.rw_earbells_k31_who_hears).prog) rfl (by decide) (by kernel_rfl) ⟨rfl, by decide, by decide⟩ ?F VL.cxa_never
    intro w mg fa h Y G hmg0
    obtain ⟨K, KX, c, ex⟩ := Y
    have hmg : mg VL.x9.nm = some (.ref fa) := by
      have e : (HandSHeadRun.topDef (OpenLaw.row PySem.Challenge.rw_earbells_k31_who_hears).prog 11).name = VL.x9.nm := by kernel_rfl
      rw [← e]
      exact hmg0
    obtain ⟨fd, hb, hF⟩ := VL.law_of (P := (PySem.Challenge.rw_earbells_k31_who_hears).prog) (w := w) (x := "_law_script") KX G c ex VL.shs VL.ok10 rfl rfl hmg rfl
    refine ⟨K, fd, _, KX, hb, fun H a ns hl _ hS => ?_, fun base _ _ => VL.FnOk.any (hF base)⟩
    obtain ⟨o, h1, h2⟩ := plain ns hl
    exact VL.law_sp rfl hS h1 h2

theorem PySem.Challenge.cw_earbells_k31_who_hears_holds : PySem.Challenge.rw_earbells_k31_who_hears.Holds :=
  VL.holds_of (VL.plain_of (Φ := VL.phi VL.tab10) rfl (VL.at_law rfl))
