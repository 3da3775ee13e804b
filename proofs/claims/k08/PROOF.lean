import PyProof.Rows.All
import Wide.All
import OpenK.AllK
import Wide.FinOn
import PyProof.EqAt
import PyProof.EqKinds
import PyProof.TupleCall
import KE.KExcIs
import KE.GoesNew
import KE.GoesEnum
import PySem.Challenge.RW_evenbeat_k08_whole_even_or_fault
import HandS.ForMost
import HandS.Zip
import HandS.Rev
import HandS.RevTup
import HandS.Defaults
import HandS.ForExc
import HandS.IsInst
import HandS.ExcIs
import HandS.ExcField
import HandS.ExcInit
import HandS.ExcValue
import HandS.Wide
import HandS.Style
import HandS.Conv
set_option Elab.async false
set_option linter.all false
set_option maxRecDepth 100000
set_option maxHeartbeats 4000000
set_option exponentiation.threshold 1000
/- An exception that an except suite hands to a name, read behind the suite: try .. except X as e: v = e; isinstance of v; v.f -/
namespace Eb
open PySem PySem.Spec PyProof.Rows L2

def ExH (a : Addr) (cls : Value) (d : Option Addr) : HO := .ext fun h => ∃ (oe : Obj) (vs : Array Value), h.get? a = some oe ∧ Zc cls d oe ∧ oe.data = .fields vs

theorem exh_ok {P : Program} {w : World} {H : Hp} {h : Heap} {a : Addr} {cls : Value} {d : Option Addr} {oe : Obj} {vs : Array Value}
    (e : h.get? a = some oe) (z : Zc cls d oe) (f : oe.data = .fields vs) : ObjOk P w H h a (ExH a cls d) :=
  ⟨⟨oe, vs, e, z, f⟩, ⟨oe, e⟩, fun _ _ ⟨o, v, q, r⟩ k => ⟨o, v, k o q, r⟩⟩
theorem exh_at {P : Program} {w : World} {H : Hp} {h : Heap} {a : Addr} {cls : Value} {d : Option Addr} (hok : HOk P w H h) (e : H a = some (ExH a cls d)) :
    ∃ (oe : Obj) (vs : Array Value), h.get? a = some oe ∧ Zc cls d oe ∧ oe.data = .fields vs := by
  have t : ObjOk P w H h a (.ext fun h => ∃ (oe : Obj) (vs : Array Value), h.get? a = some oe ∧ Zc cls d oe ∧ oe.data = .fields vs) := hok a _ e
  exact t.1

section
variable {X : Cx} {pins : List (Addr × Obj)} {σ : L2.St} {H : Hp} {s : Shared} {a : Addr} {oe : Obj} {vs : Array Value} {cls : Value} {d : Option Addr}

/-- an untracked exception object of ours is tracked from here on -/
theorem hold_it (I : Inv X pins σ H s) (e : s.heap.get? a = some oe) (z : Zc cls d oe) (f : oe.data = .fields vs) (na : H a = none) (nL : a ≠ X.env.locals)
    (n0 : X.s_0.heap.get? a = none) (np : ∀ p ∈ X.pn ++ pins, p.1 ≠ a) : Inv X pins σ (upd H a (ExH a cls d)) s := by
  have was : ∀ {b : Addr} {o : Obj}, X.s_0.heap.get? b = some o → b ≠ a := fun {b o} q w => by
    rw [w, n0] at q
    cases q
  refine ⟨I.ok, I.os, I.bare,
    { keep := I.base.keep, slot := I.base.slot, there := I.base.there,
      free := fun b o q n hx => (upd_ne (was q)).trans (I.base.free b o q n hx),
      tups := fun b xs q => (upd_ne (ne_of_none (I.base.tups b xs q) na)).trans (I.base.tups b xs q),
      frzs := fun b o u q => (upd_ne (ne_of_none (I.base.frzs b o u q) na)).trans (I.base.frzs b o u q),
      tbls := fun b ps q => ?_ }, I.loc, I.cell, (upd_ne (Ne.symm nL)).trans I.free, fun x c q => ?_, fun p hp => ?_, fun b o q => ?_, I.len⟩
  · obtain ⟨more, r⟩ := I.base.tbls b ps q
    exact ⟨more, (upd_ne (ne_of_none r na)).trans r⟩
  · have ca : c ≠ a := fun w => by
      obtain ⟨v, o, ho, hd⟩ := I.cell x c q
      rw [w, e] at ho
      cases ho
      rw [f] at hd
      cases hd
    exact (upd_ne ca).trans (I.freeC x c q)
  · obtain ⟨h1, h2, h3⟩ := I.pin p hp
    exact ⟨h1, (upd_ne (np p hp)).trans h2, h3⟩
  · by_cases hb : b = a
    · rw [hb, upd_same] at q
      rw [hb]
      cases q
      exact exh_ok e z f
    · rw [upd_ne hb] at q
      exact (I.hok b o q).stay (fun _ _ _ r => r) (fun c r => (upd_ne (ne_of_none r na)).trans r) fun c xs r => (upd_ne (ne_of_none r na)).trans r
end

/-- what «except x as n: m = n» wishes of an exception of the body (it is caught; n in slot i, m in slot j) -/
def wHeld (K : PySem.W.Frag) (c : Value) (i j : Nat) (D : Ends) : WX := fun cls d σ H => PySem.W.exmOne K cls c = some true ∧
  ∀ a, H a = none → D.nx (((σ.set i (some (.ref a))).set j (some (.ref a))).set i none) (upd H a (ExH a cls d))

section
variable {X : Cx} {x n m : Str} {c : Value} {i j : Nat} {body : List Stmt} {p1 p2 p3 np pos pos' : Pos} {tb : WX → TS}
theorem ps_try_held (hs : X.stack = X.env :: X.outer) (hf : X.env.frame = some X.env.locals) (hex : X.ex = []) (hN : X.N.Nodup) (hi : X.N[i]? = some n) (hln : X.env.kindOf n = some .local)
    (hj : X.N[j]? = some m) (hlm : Loc X.env.scope m) (hfm : X.fn m = true ∨ X.env.scope.names.lookup m = some .local) (hc : Names X x c) (hdn : (n == ("__debug__" : Str)) = false) (hcn : (n == ("__classdict__" : Str)) = false)
    (hb : ∀ (W : WX) (pn : List (Addr × Obj)) (xe : Value → Shared → Prop), Takes (X.tr pn xe) W → PassesOwn (model X.prog X.w) X.A X.env xe → PSs (X.tr pn xe) body (tb W)) :
    PS X (.Try body [.ExceptHandler (some (.Name x np)) (some n) [.Assign [.Name m p1] (.Name n p2) p3] pos'] [] [] pos) (fun D σ H => tb (wHeld X.K c i j D) D σ H) := by
  constructor
  intro pins s σ H D I h
  have ok := I.ok
  have A1 : X.A.frames = some (X.env :: X.outer) := by rw [ok.frames, hs]
  refine wpAny_Try_except ?_
  have R := (hb (wHeld X.K c i j D) (X.pn ++ pins)
    (fun e s1 => wpAny (model X.prog X.w) X.A (noteFrame e X.env)
      (fun _ s2 => wpAny (model X.prog X.w) X.A (setFlight e none)
        (fun _ s3 => wpAny (model X.prog X.w) X.A (handleBy e X.env [.ExceptHandler (some (.Name x np)) (some n) [.Assign [.Name m p1] (.Name n p2) p3] pos']) (SP X pins D) X.xe s3)
        X.xe s2) X.xe s1)
    (fun u s' xx => ?_) PassesOwn.looking).run [] s σ H D (I.toTry _) h
  · refine wpAny_mono R (fun f s1 r => ?_) fun _ _ r => r
    cases f with
    | next =>
      obtain ⟨σ1, H1, J, q⟩ := r
      exact wpAny_execs_nil ⟨σ1, H1, J.ofTry ok, q⟩
    | ret u =>
      obtain ⟨v, σ1, H1, J, t, q⟩ := r
      exact ⟨v, σ1, H1, J.ofTry ok, t, q⟩
    | brk =>
      obtain ⟨σ1, H1, J, q⟩ := r
      exact ⟨σ1, H1, J.ofTry ok, q⟩
    | cont =>
      obtain ⟨σ1, H1, J, q⟩ := r
      exact ⟨σ1, H1, J.ofTry ok, q⟩
  -- what the body raised
  obtain ⟨a, B, sI, pn1, σ1, H1, cls, d, rfl, J1, nb, up, sky, na, os, ag, hit, go⟩ := xx
  have J : Inv X pins σ1 H1 sI := J1.ofTry ok
  have sky1 : Sky B (X.env :: X.outer) a (Zc cls d) X.env.locals s'.heap := hs ▸ sky
  show wpAny (model X.prog X.w) X.A (noteFrame (.ref a) X.env) _ _ _
  refine Sky.land Zc.steady A1 hf sky1 fun h3 fl up3 => ?_
  have J3 : Inv X pins σ1 H1 { s' with heap := h3 } := J.landed nb fl.1 (up.trans up3) os ag
  obtain ⟨o3, v3, e3, z3, d3⟩ := fl.there
  have off : a ∉ frs (X.env :: X.outer) := fun hm => by
    obtain ⟨_, o, e, hnf⟩ := fl.2.2.1.mem hm
    rw [e3] at e
    cases e
    exact hnf _ d3
  have nL : a ≠ X.env.locals := fun z => off (List.mem_filterMap.mpr ⟨X.env, List.mem_cons_self, by rw [hf, z]⟩)
  have nF : a ∉ X.fs := fun hm => by
    obtain ⟨e, he, q⟩ := List.mem_filterMap.mp hm
    exact off (List.mem_filterMap.mpr ⟨e, List.mem_cons_of_mem _ he, q⟩)
  have new : ∀ b o, sI.heap.get? b = some o → b ∉ frs X.stack → b ≠ a := fun b o q hb z => by
    have t := nb b o q hb
    rw [z, fl.2.1] at t
    cases t
  have offS : a ∉ frs X.stack := by rw [hs]; exact off
  have n0 : X.s_0.heap.get? a = none := by
    cases q : X.s_0.heap.get? a with
    | none => rfl
    | some o =>
      obtain ⟨o1, q1⟩ := J.base.there a o q (by rw [hex]; exact fun z => nomatch z)
      exact absurd rfl (new a o1 q1 offS)
  have nP : ∀ p ∈ X.pn ++ pins, p.1 ≠ a := fun p hp => by
    obtain ⟨q1, q2, q3, q4, _⟩ := J.pin p hp
    refine new p.1 p.2 q1 fun hm => ?_
    rw [hs] at hm
    obtain ⟨e, he, q⟩ := List.mem_filterMap.mp hm
    rcases List.mem_cons.mp he with w | w
    · rw [w, hf] at q
      exact q3 (Option.some.inj q).symm
    · exact q4 (List.mem_filterMap.mpr ⟨e, w, q⟩)
  have S3 := J3.suite e3 d3 na nL nF
  refine wpAny_handleBy_cons (codeAny_handlers_test ?_) (by intro q; cases q)
  have LT : PySem.W.Looks (model X.prog X.w) h3 (typeOf (.ref a)) cls := fun A Q E s k q => wpAny_typeOf_ref (k _ _ e3) (by rw [z3.1]; exact q)
  have LM := PySem.W.exm_one (M := model X.prog X.w) J3.kIn LT hit
  have read : ∀ {Q E : Value → Shared → Prop}, Q c { s' with heap := h3 } → wpAny (model X.prog X.w) (X.A.mark (some (.ref a))) (eval (.Name x np) X.env) Q E { s' with heap := h3 } := fun {Q E} q => by
    obtain ⟨g1, g2, g3⟩ := hc
    rcases g3 with g | ⟨g, g4, g5⟩
    · exact ld_glob (X := X.suite a ((a, o3) :: (X.pn ++ pins))) S3 g1 g q g2
    · exact ld_blt (X := X.suite a ((a, o3) :: (X.pn ++ pins))) S3 g1 g g4 q g5 g2
  refine read (LM.here (codeAny_handlers_suite_as ?_))
  refine HandSPX.lands_againZ fl fun h4 fl4 up4 => ?_
  have J4 : Inv X pins σ1 H1 { s' with heap := h4 } := J.landed nb fl4.1 ((up.trans up3).trans up4) os ag
  obtain ⟨o4, v4, e4, z4, d4⟩ := fl4.there
  have S4 := J4.suite e4 d4 na nL nF
  refine store_ok (X := X.suite a ((a, o4) :: (X.pn ++ pins))) (v := .ref a) S4 hN hi (.inl hln) rfl (fun s5 S5 => ?_) (.inr hln)
  have W : PSs (X.suite a ((a, o4) :: (X.pn ++ pins))) [.Assign [.Name m p1] (.Name n p2) p3] (tAsg (tVar i) (gName j)) :=
    pss_one (ps_set (X := X.suite a ((a, o4) :: (X.pn ++ pins))) (i := j) hN hj hlm (pe_var (X := X.suite a ((a, o4) :: (X.pn ++ pins))) hi (.inl hln) hdn hcn) (by rfl) hfm)
  have lt : i < σ1.length := by
    rw [J.len]
    exact (List.getElem?_eq_some_iff.mp hi).1
  refine wpAny_mono (W.run [] s5 _ H1 { nx := fun σ' H' => σ' = (σ1.set i (some (.ref a))).set j (some (.ref a)) ∧ H' = H1, rt := fun _ _ => False, bk := fun _ _ => False, ct := fun _ _ => False } S5 ⟨.ref a, List.getElem?_set_self lt, rfl, rfl⟩) (fun f s6 r => ?_) (fun _ _ z => z.elim)
  cases f with
  | next =>
    obtain ⟨σ6, H6, S6, rfl, rfl⟩ := r
    have pa := S6.pin (a, o4) (List.mem_append_left _ List.mem_cons_self)
    have J6 : Inv X pins _ H6 s6 := S6.unsuite ok
    have K6 : Inv X ((a, o4) :: pins) _ H6 s6 := J6.pins_of fun p hp => by
      rcases List.mem_cons.mp hp with w | w
      · rw [w]
        exact pa
      · exact J6.pin p (List.mem_append_right _ w)
    refine gone_ok K6 hN hi hln fun s7 J7 => ?_
    have p7 := J7.pin (a, o4) (List.mem_append_right _ List.mem_cons_self)
    have M7 : Inv X pins _ H6 s7 := J7.pins_of fun p hp => J7.pin p (List.mem_append_right _ (List.mem_cons_of_mem _ hp))
    exact ⟨_, _, hold_it M7 p7.1 z4 d4 p7.2.1 nL n0 nP, go a na⟩
  | ret u =>
    obtain ⟨_, _, _, _, _, q⟩ := r
    exact q.elim
  | brk =>
    obtain ⟨_, _, _, q⟩ := r
    exact q.elim
  | cont =>
    obtain ⟨_, _, _, q⟩ := r
    exact q.elim
end

/-! ### isinstance of such a held exception -/
/-- what the class D must say: as of one that a suite holds, and that it is a class of the text -/
structure HeldC (K : PySem.W.Frag) (D : Addr) : Prop extends ExcC K D where
  hc : (PySem.W.clsIn K D).isSome = true

/-- the held exception stands as an instance of its class -/
def Stood (H : Hp) (a D : Addr) (d : Option Addr) : Prop := H a = some (ExH a (.ref D) d) ∧ ∀ dd, d = some dd → ∃ fs, H dd = some (.xd fs)
theorem stood_inst {P : Program} {w : World} {H : Hp} {h : Heap} {a D : Addr} {d : Option Addr} (hok : HOk P w H h) (t : Stood H a D d) : ∃ ox od, PySem.W.InstAt h a ox D od := by
  obtain ⟨oe, vs, e, z, f⟩ := exh_at hok t.1
  cases d with
  | none => exact ⟨oe, none, e, z.1, by unfold PySem.W.notCls; rw [f] <;> rfl, by rw [z.2]; trivial⟩
  | some dd =>
    obtain ⟨fs, q⟩ := t.2 dd rfl
    have x : ObjOk P w H h dd (.xd fs) := hok dd _ q
    obtain ⟨mA, hns, _⟩ := x
    obtain ⟨o, _, _, ho, _⟩ := hns
    exact ⟨oe, some o, e, z.1, by unfold PySem.W.notCls; rw [f] <;> rfl, by rw [z.2]; exact ho⟩
section
variable {X : Cx}
def rIsH (K : PySem.W.Frag) : List V → Hp → VK → Prop := fun xs H Q => ∃ (a D : Addr) (d : Option Addr) (c : V) (cv : Value) (b : Bool), xs = [.ref a, c] ∧ Stood H a D d ∧ HeldC K D ∧ ClsV c cv ∧ PySem.W.kitOne K (.ref D) cv = some b ∧ Q (.bl b) H
def rIsHT (K : PySem.W.Frag) : List V → Hp → VK → Prop := fun xs H Q => ∃ (a D tp : Addr) (d : Option Addr) (cs : List V) (us : List Value) (b : Bool), xs = [.ref a, .ref tp] ∧ Stood H a D d ∧ HeldC K D ∧ H tp = some (.tup cs) ∧ Paired ClsV cs us ∧ PySem.W.kitAny K (.ref D) us = some b ∧ Q (.bl b) H
theorem held_kit {D a : Addr} {od : Option Obj} {ox : Obj} {K : PySem.W.Frag} (C : HeldC K D) : PySem.W.KitX K (.ref a) (.ref D) (fun h => PySem.W.InstAt h a ox D od) :=
  PySem.W.kitx_exc C.hc C.hg C.hk C.hs C.ha C.hn C.ht C.hm
theorem call_isH : CallR X (.builtin "isinstance") (rIsH X.K) := by
  intro pins s σ H xs us Q I r h
  obtain ⟨a, D, d, c, cv, b, rfl, st, C, kc, e, q⟩ := h
  obtain ⟨u1, u2, rfl, r1, r2⟩ := vals2 r
  cases (show u1 = Value.ref a from r1)
  have e2 := kc.eq r2
  subst e2
  obtain ⟨ox, od, J⟩ := stood_inst I.hok st
  exact PySem.W.kia_one (held_kit C) I.kIn J e (fun z => nomatch z) fun tk => ⟨.bl b, H, I.tok tk, rfl, q⟩
theorem call_isHT : CallR X (.builtin "isinstance") (rIsHT X.K) := by
  intro pins s σ H xs us Q I r h
  obtain ⟨a, D, tp, d, cs, ws, b, rfl, st, C, hT, kc, e, q⟩ := h
  obtain ⟨u1, u2, rfl, r1, r2⟩ := vals2 r
  cases (show u1 = Value.ref a from r1)
  cases (show u2 = Value.ref tp from r2)
  obtain ⟨ox, od, J⟩ := stood_inst I.hok st
  obtain ⟨_, its, rv, o, h1, h2, n, h3⟩ := (show ObjOk X.prog X.w H s.heap tp (.tup cs) from I.hok tp _ hT)
  have e3 := ClsV.all kc rv
  subst e3
  obtain ⟨oc, od', dt, sl⟩ := o
  simp only at h2 h3
  subst h2 h3
  exact PySem.W.kia_tup (held_kit C) I.kIn J h1 e (fun z => nomatch z) fun tk => ⟨.bl b, H, I.tok tk, rfl, q⟩
end
/-- v.f of a held exception whose own dict stands at dd -/
def tHeldF (K : PySem.W.Frag) (f : Str) (te : TE) : TE := fun σ H Q => te σ H fun x H1 => ∃ (a D dd : Addr) (fs : List (Str × V)) (v : V), x = .ref a ∧ H1 a = some (ExH a (.ref D) (some dd)) ∧ H1 dd = some (.xd fs) ∧ HeldC K D ∧ PySem.W.findIn K (.ref D) f = some none ∧ fs.lookup f = some v ∧ Q v H1
theorem pe_heldF {X : Cx} {e : Expr} {te : TE} {pos : Pos} {n : Str} (he : PE X e te) (hb : attributeBase e n X.env (eval e X.env) = eval e X.env := by rfl) : PE X (.Attribute e n pos) (tHeldF X.K n te) := by
  refine ⟨fun pins s σ H Q I h => ?_⟩
  refine attr_of hb (thn (he.run pins s σ H _ I h) fun u s1 hh => ?_)
  obtain ⟨x, H1, I1, rx, a, D, dd, fs, v, rfl, ea, ed, C, hno, l, q⟩ := hh
  obtain rfl : u = Value.ref a := rx
  obtain ⟨oe, vs, e4, z, hd⟩ := exh_at I1.hok ea
  have hx : ObjOk X.prog X.w H1 s1.heap dd (.xd fs) := I1.hok dd _ ed
  obtain ⟨mA, hns, hr⟩ := hx
  obtain ⟨od, ho, hl⟩ := lookIn_ns hns
  obtain ⟨u, hu, ru⟩ := RelO.some_of (v := v) (o := mA n) (by rw [← l]; exact hr n)
  have J : PySem.W.InstAt s1.heap a oe D (some od) := ⟨e4, z.1, by unfold PySem.W.notCls; rw [hd] <;> rfl, by rw [z.2]; exact ho⟩
  exact HandSPX.exc_get I1.kIn J C.hg C.hk C.hs (PySem.W.findObj_own C.hd hno rfl (by rw [hl, hu])) (handed_of ru) ⟨v, H1, I1.tok _, ru, q⟩
end Eb
namespace Eb
open PySem PySem.Spec PyProof.Rows L2
theorem kit_self {K : PySem.W.Frag} {D : Addr} : PySem.W.kitOne K (.ref D) (.ref D) = some true := by
  unfold PySem.W.kitOne
  rw [if_pos (by simp)]
theorem kit_cls {K : PySem.W.Frag} {D C : Addr} {b : Bool} (i : PySem.W.isClsIn K C = true) (t : PySem.W.typeIn K (.ref C) = some (.type "type")) (s : PySem.W.subIn K (.ref D) (.ref C) = some b) : PySem.W.kitCls K (.ref D) (.ref C) = some b := by
  have i2 : (PySem.W.clsIn K C).isSome = true := i
  unfold PySem.W.kitCls
  dsimp only
  rw [i2, t, if_pos (by rfl), s]
theorem kit_other {K : PySem.W.Frag} {D C : Addr} {b : Bool} (i : PySem.W.isClsIn K C = true) (t : PySem.W.typeIn K (.ref C) = some (.type "type")) (s : PySem.W.subIn K (.ref D) (.ref C) = some b) (n : (D == C) = false) : PySem.W.kitOne K (.ref D) (.ref C) = some b := by
  unfold PySem.W.kitOne
  have e : (Value.ref D == Value.ref C) = false := by
    have n' : D ≠ C := by simpa using n
    simpa using n'
  rw [e, if_neg Bool.false_ne_true]
  exact kit_cls i t s
theorem exm_other {K : PySem.W.Frag} {D C : Addr} {b : Bool} (x : PySem.W.subIn K (.ref C) (.type "BaseException") = some true) (i : PySem.W.isClsIn K C = true) (t : PySem.W.typeIn K (.ref C) = some (.type "type")) (s : PySem.W.subIn K (.ref D) (.ref C) = some b) :
    PySem.W.exmOne K (.ref D) (.ref C) = some b := by
  unfold PySem.W.exmOne
  rw [x, if_pos (by rfl)]
  exact kit_cls i t s
theorem kit_VE {K : PySem.W.Frag} {D : Addr} {b : Bool} (s : PySem.W.subIn K (.ref D) (.type "ValueError") = some b) : PySem.W.kitOne K (.ref D) (.type "ValueError") = some b := by
  unfold PySem.W.kitOne
  rw [if_neg (by simp)]
  show (if PySem.W.kitMeta "ValueError" = true then PySem.W.subIn K (.ref D) (.type "ValueError") else none) = some b
  rw [if_pos (by decide +kernel), s]
end Eb
/- An own exception, made as a value: whatever makes one for a raise makes one to be held; raised -/
namespace Eb
open PySem PySem.Spec PyProof.Rows L2
def tHold (t : L2.St → Hp → XK → Prop) : TE := fun σ H Q => t σ H fun cls d H' => ∀ a, H' a = none → Q (.ref a) (upd H' a (ExH a cls d))
def tRaiseM (W : WX) (t : L2.St → Hp → XK → Prop) : TS := fun _ σ H => t σ H fun cls d H' => W cls d σ H'
section
variable {X : Cx} {e : Expr} {t : L2.St → Hp → XK → Prop}
theorem pe_hold (mk : PMk X e t) : PE X e (tHold t) where
  run pins s σ H Q I h := wpAny_mono (mk pins s σ H _ I h) (fun v s1 made => by
    obtain ⟨a, oe, fs, s0, H', cls, d, rfl, J, grown, fresh, there, zc, dat, -, na, sameOs, allBare, -, wish⟩ := made
    have J1 : Inv X pins σ (upd H' a (ExH a cls d)) s1 := J.call' (ch := []) sameOs (Un.laidN grown fresh na) (J.hok.laidN grown na (exh_ok there zc dat)) allBare (fun _ z => nomatch z)
    exact ⟨.ref a, _, J1, rfl, wish a na⟩) fun _ _ z => z
theorem ps_raiseM {W : WX} {pos : Pos} (calm : X.calm = true) (tk : Takes X W) (mk : PMk X e t) : PS X (.Raise (some e) none pos) (tRaiseM W t) := ps_raise calm tk mk
end
section
variable {K : PySem.W.Frag} {σ : L2.St} {H : Hp} {Q : VK} {D : Ends} {ta : TA} {te to : TE} {C : Addr} {sp : Sp} {W : WX} {f : Str} {y x : V}
theorem rd_mkO {QX : XK} (q : ta σ H fun vs H1 => vs.length ≤ 1000 ∧ ∀ a, H1 a = none → sp (.ref a :: (vs ++ [])) (upd H1 a (exo a C none))
  (fun v H2 => v = .non ∧ ∃ (d : Addr) (fs : List (Str × V)), H2 a = some (exo a C (some d)) ∧ H2 d = some (exd d fs) ∧ H1 d = none ∧ QX (.ref C) (some d) (upd (del H2 a) d (.xd fs))) (fun _ _ _ => False)) : tMkO C sp [] ta σ H QX := q
theorem rd_hold {t : L2.St → Hp → XK → Prop} (q : t σ H fun cls d H' => ∀ a, H' a = none → Q (.ref a) (upd H' a (ExH a cls d))) : tHold t σ H Q := q
theorem rd_raiseM {t : L2.St → Hp → XK → Prop} (q : t σ H fun cls d H' => W cls d σ H') : tRaiseM W t D σ H := q
theorem rd_heldF (q : te σ H fun x H1 => ∃ (a D dd : Addr) (fs : List (Str × V)) (v : V), x = .ref a ∧ H1 a = some (ExH a (.ref D) (some dd)) ∧ H1 dd = some (.xd fs) ∧ HeldC K D ∧ PySem.W.findIn K (.ref D) f = some none ∧ fs.lookup f = some v ∧ Q v H1) : tHeldF K f te σ H Q := q
def ufs (w m l : V) : List (Str × V) := [(("least" : Str), l), (("most" : Str), m), (("width" : Str), w)]
/-- the __init__ of a class with three fields -/
def sp_uinit (C : Addr) : Sp := fun vs H Q _ => ∃ (a : Addr) (w m l : V), vs = [.ref a, w, m, l] ∧ H a = some (exo a C none) ∧
  ∀ H' dx, H dx = none → dx ≠ a → H' a = some (exo a C (some dx)) → H' dx = some (exd dx (ufs w m l)) → (∀ b o, b ≠ a → H b = some o → H' b = some o) → Q .non H'
theorem mk_uneven {H1 : Hp} {QX : XK} {w m l : V} (q : ∀ H3 d, Same H1 H3 → H1 d = none → H3 d = some (.xd (ufs w m l)) → QX (.ref C) (some d) H3) :
    [w, m, l].length ≤ 1000 ∧ ∀ a, H1 a = none → sp_uinit C (.ref a :: ([w, m, l] ++ [])) (upd H1 a (exo a C none))
      (fun v H2 => v = .non ∧ ∃ (d : Addr) (fs : List (Str × V)), H2 a = some (exo a C (some d)) ∧ H2 d = some (exd d fs) ∧ H1 d = none ∧ QX (.ref C) (some d) (upd (del H2 a) d (.xd fs))) (fun _ _ _ => False) := by
  refine ⟨by show 3 ≤ 1000; decide, fun a na => ⟨a, w, m, l, rfl, upd_same, fun H' dx nd da ea ed kp => ⟨rfl, dx, _, ea, ed, ?_, ?_⟩⟩⟩
  · rw [upd_ne da] at nd
    exact nd
  · rw [upd_ne da] at nd
    refine q _ dx (fun b o e => ?_) nd upd_same
    rw [upd_ne (ne_of_none e nd), del_ne (ne_of_none e na)]
    exact kp b o (ne_of_none e na) (by rw [upd_ne (ne_of_none e na)]; exact e)
theorem ufs_width {w m l : V} : (ufs w m l).lookup ("width" : Str) = some w := by
  show List.lookup ("width" : Str) [(("least" : Str), l), (("most" : Str), m), (("width" : Str), w)] = some w
  rw [lookup_put, if_neg (by decide +kernel), lookup_put, if_neg (by decide +kernel), lookup_put, if_pos rfl]
theorem ufs_most {w m l : V} : (ufs w m l).lookup ("most" : Str) = some m := by
  show List.lookup ("most" : Str) [(("least" : Str), l), (("most" : Str), m), (("width" : Str), w)] = some m
  rw [lookup_put, if_neg (by decide +kernel), lookup_put, if_pos rfl]
theorem ufs_least {w m l : V} : (ufs w m l).lookup ("least" : Str) = some l := by
  show List.lookup ("least" : Str) [(("least" : Str), l), (("most" : Str), m), (("width" : Str), w)] = some l
  rw [lookup_put, if_pos rfl]
end
end Eb
/-! readings, one step a lemma; «walk_at "rd"» takes the steps that need no thought -/
namespace Eb
open PySem PySem.Spec PyProof.Rows L2
section
variable {σ : L2.St} {H : Hp} {Q : VK} {D : Ends} {v x y : V} {ta tb te : TE} {tr : TA} {t u : TS} {c c' : TT} {i j : Int} {k : Bool} {R : L2.St → Hp → Prop} {QT : Bool → Hp → Prop} {QA : List V → Hp → Prop}
theorem rd_var {n : Nat} (h : σ[n]? = some (some v)) (q : Q v H) : tVar n σ H Q := ⟨v, h, q⟩
theorem rd_c (q : Q v H) : tC v σ H Q := q
theorem rd_op {r : R2} (q : ta σ H fun x H1 => tb σ H1 fun y H2 => r x y H2 Q) : tOp r ta tb σ H Q := q
theorem rd_un {r : V → Hp → VK → Prop} (q : ta σ H fun x H1 => r x H1 Q) : tUn r ta σ H Q := q
theorem rd_I0 {g : Int → Int → V} (q : Q (g i j) H) : rI0 g (.int i) (.int j) H Q := ⟨i, j, rfl, rfl, q⟩
theorem rd_I {C : Int → Int → Prop} {g : Int → Int → V} (hc : C i j) (q : Q (g i j) H) : rI C g (.int i) (.int j) H Q := ⟨i, j, rfl, rfl, hc, q⟩
theorem rd_U {g : Int → V} (q : Q (g i) H) : rU g (.int i) H Q := ⟨i, rfl, q⟩
theorem rd_eqI (q : Q (.bl (decide (V.int i = V.int j))) H) : rEq (.int i) (.int j) H Q := ⟨rfl, q⟩
theorem rd_neI (q : Q (.bl (!decide (V.int i = V.int j))) H) : rNe (.int i) (.int j) H Q := ⟨rfl, q⟩
theorem rd_cons (q : ta σ H fun x H1 => tr σ H1 fun xs H2 => QA (x :: xs) H2) : tCons ta tr σ H QA := q
theorem rd_nil (q : QA [] H) : tNil σ H QA := q
theorem rd_cb {r : List V → Hp → VK → Prop} (q : tr σ H fun vs H1 => r vs H1 Q) : tCB r tr σ H Q := q
theorem rd_call {sp : Sp} {dvs : List V} {E : XK} (q : tr σ H fun vs H1 => sp (vs ++ dvs) H1 Q E) : tCall sp dvs E tr σ H Q := q
theorem rd_callS {sp : Sp} {E : L2.St → XK} (q : tr σ H fun vs H1 => sp vs H1 Q (E σ)) : tCallS sp E tr σ H Q := q
theorem rd_test (q : te σ H fun x H' => ∃ k, x = .bl k ∧ QT k H') : tTest te σ H QT := q
theorem rd_tb (q : te σ H fun x H' => ∃ k, x = .bl k ∧ QT k H') : tB te σ H QT := q
theorem rd_bl {q' : Bool → Prop} (q : q' k) : ∃ k', V.bl k = .bl k' ∧ q' k' := ⟨k, rfl, q⟩
theorem rd_and (q : c σ H fun b H1 => if b = true then c' σ H1 QT else QT false H1) : tAnd c c' σ H QT := q
theorem rd_or (q : c σ H fun b H1 => if b = true then QT true H1 else c' σ H1 QT) : tOr c c' σ H QT := q
theorem rd_not (q : c σ H fun b H1 => QT (!b) H1) : tNot c σ H QT := q
theorem rd_andV (q : ta σ H fun x H1 => ∃ b, x = .bl b ∧ if b = true then tb σ H1 Q else Q (.bl false) H1) : tAndV ta tb σ H Q := q
theorem rd_orV (q : ta σ H fun x H1 => ∃ b, x = .bl b ∧ if b = true then Q (.bl true) H1 else tb σ H1 Q) : tOrV ta tb σ H Q := q
theorem rd_notV (q : ta σ H fun x H1 => ∃ b, x = .bl b ∧ Q (.bl (!b)) H1) : tNotV ta σ H Q := q
theorem rd_ifE (q : c σ H fun b H1 => if b = true then ta σ H1 Q else tb σ H1 Q) : tIf c ta tb σ H Q := q
theorem rd_asg {g : TG} (q : te σ H fun x H1 => g x σ H1 D.nx) : tAsg te g D σ H := q
theorem rd_gn {n : Nat} (q : R (σ.set n (some v)) H) : gName n v σ H R := q
theorem rd_seq (q : t { D with nx := u D } σ H) : tSeq t u D σ H := q
theorem rd_ret (q : te σ H D.rt) : tRet te D σ H := q
theorem rd_ifS (q : c σ H fun b H1 => if b = true then t D σ H1 else u D σ H1) : tIfS c t u D σ H := q
theorem rd_drop (q : te σ H fun _ H1 => D.nx σ H1) : tDrop te D σ H := q
theorem rd_next (q : D.nx σ H) : tNext D σ H := q
theorem rd_tup (q : tr σ H fun xs H1 => xs.length ≤ sizeLine ∧ ∀ p, H1 p = none → Q (.ref p) (upd H1 p (.tup xs))) : tTup tr σ H Q := q
theorem rd_lst (q : tr σ H fun xs H1 => xs.length ≤ sizeLine ∧ ∀ p, H1 p = none → Q (.ref p) (upd H1 p (.lst xs))) : tLst tr σ H Q := q
theorem rd_ixL {K : PySem.W.Frag} {p : Addr} {xs : List V} (hs : SqL K H p xs) (hi : atI xs i = some v) (q : Q v H) : rIxL K (.ref p) (.int i) H Q := ⟨p, xs, i, v, rfl, rfl, hs, hi, q⟩
theorem rd_ixT {K : PySem.W.Frag} {p : Addr} {xs : List V} (hs : SqT K H p xs) (hi : atI xs i = some v) (q : Q v H) : rIxT K (.ref p) (.int i) H Q := ⟨p, xs, i, v, rfl, rfl, hs, hi, q⟩
theorem rd_sl {r : V → Option Int → Option Int → Hp → VK → Prop} {tl th : TO} (q : te σ H fun x H1 => tl σ H1 fun l H2 => th σ H2 fun u H3 => r x l u H3 Q) : tSl r te tl th σ H Q := q
theorem rd_no {QO : Option Int → Hp → Prop} (q : QO none H) : tNoPart σ H QO := q
theorem rd_slL {K : PySem.W.Frag} {p : Addr} {xs : List V} {lo hi : Option Int} (hs : SqL K H p xs) (q : ∀ n, H n = none → Q (.ref n) (upd H n (.lst (cutV xs lo hi)))) : rSlL K (.ref p) lo hi H Q := ⟨p, xs, rfl, hs, q⟩
theorem rd_for {wi : TI} {g : TG} {tb : TS} (q : wi σ H fun J H1 => ∃ W : Nat → Nat → L2.St → Hp → Prop, (∃ m, W 0 m σ H1) ∧ ∀ i m σ H, W i m σ H →
  (J.stop i H ∧ D.nx σ H) ∨ (J.go i H ∧ ∃ N : L2.St → Hp → Prop, (∀ σ' H', N σ' H' → ∃ m', m' < m ∧ W (i + 1) m' σ' H') ∧ ∀ x H', J.yld i H x H' → g x σ H' fun σ2 H2 => tb { D with nx := N, ct := N, bk := D.nx } σ2 H2)) : tFor wi g tb D σ H := q
theorem rd_lc {wi : TI} {g : TG} {tt : TT} {vs : List Nat} (q : wi σ H fun J H1 => ∀ D, H1 D = none → ∃ W : Nat → Nat → Hp → Prop, (∃ m, W 0 m (upd H1 D (.lst []))) ∧ ∀ i m H, W i m H →
  (J.stop i H ∧ Q (.ref D) H) ∨ (J.go i H ∧ ∃ Nx : Hp → Prop, (∀ H', Nx H' → ∃ m', m' < m ∧ W (i + 1) m' H') ∧ ∀ x H', J.yld i H x H' → g x (wipe σ vs) H' fun σ2 H2 => wipe σ2 vs = wipe σ vs ∧ tt σ2 H2 fun b H3 =>
    if b = true then te σ2 H3 fun y H4 => ∃ acc, H4 D = some (.lst acc) ∧ acc.length < sizeLine ∧ Nx (upd H4 D (.lst (acc ++ [y]))) else Nx H3)) : tLc wi g tt te vs σ H Q := q
theorem rd_tyes (q : QT true H) : tYes σ H QT := q
theorem rd_rng1 {R : It → Hp → Prop} (q : tr σ H fun vs H1 => ∃ j : Int, vs = [.int j] ∧ -(2 ^ 62) ≤ j ∧ j < 2 ^ 62 ∧ R (Itr 0 j.toNat) H1) : iRng1 tr σ H R := q
theorem rd_ni {K : PySem.W.Frag} {p : Addr} {xs : List V} (hT : H p = some (.tup xs)) (hx : flatV x = true) (hxs : xs.all flatV = true) (q : Q (.bl (!inV x xs)) H) : rIn K true x (.ref p) H Q := ⟨p, xs, rfl, .inr (SqT.of hT), hx, hxs, q⟩
theorem rd_set {p : Addr} {xs : List V} {n : Nat} {R' : Hp → Prop} (h : H p = some (.lst xs)) (hj : ixN xs.length i = some n) (q : R' (upd H p (.lst (xs.set n v)))) : rSetL (.ref p) (.int i) v H R' := ⟨p, xs, i, n, rfl, rfl, h, hj, q⟩
theorem rd_gsub {to ti : TE} {t : TSet} (q : to σ H fun o H1 => ti σ H1 fun i H2 => t o i v H2 fun H3 => R σ H3) : gSub to ti t v σ H R := q
theorem rd_lrg {te' : L2.St → Hp → (Int → Int → Hp → Prop) → Prop} (q : te' σ H fun a b H1 => RgOk a b ∧ ∀ q, H1 q = none → Q (.ref q) (upd H1 q (.lst (rgV a b)))) : tLstRg te' σ H Q := q
theorem rd_rg1 {QR : Int → Int → Hp → Prop} (q : te σ H fun x H1 => ∃ n, x = .int n ∧ QR 0 n H1) : tRg1 te σ H QR := q
theorem rgV_ints (n : Int) : rgV 0 n = ((List.range n.toNat).map fun k => ((k : Nat) : Int)).map V.int := by
  unfold rgV
  rw [List.map_map, Int.sub_zero]
  refine List.map_congr_left fun k _ => ?_
  show V.int (0 + (k : Int)) = V.int (k : Int)
  rw [Int.zero_add]
def rAddZ : R2 := fun x y H Q => ∃ i j, x = .str i ∧ y = .str j ∧ i.length + j.length ≤ sizeLine ∧ Q (.str (i ++ j)) H
theorem op_addZ {X : Cx} : OpR X (binaryOp .Add) rAddZ := op_add_str
theorem rd_addZ {a b : Str} (h : a.length + b.length ≤ 1000) (q : Q (.str (a ++ b)) H) : rAddZ (.str a) (.str b) H Q := ⟨a, b, rfl, rfl, Nat.le_of_lt (small1000 h), q⟩
theorem rd_slS {z : Str} {lo hi : Option Int} (h : z.length ≤ 1000) (q : Q (.str (cutS z lo hi)) H) : rSlS (.str z) lo hi H Q := ⟨z, rfl, Nat.le_of_lt (small1000 h), q⟩
theorem rd_ixZ {z : Str} {c : Nat} (h : z.length ≤ 1000) (hi : atI z.cps.toList i = some c) (q : Q (.str ⟨#[c]⟩) H) : rIxS (.str z) (.int i) H Q := ⟨z, i, c, rfl, rfl, Nat.le_of_lt (small1000 h), hi, q⟩
theorem rd_eqZ {a b : Str} (q : Q (.bl (decide (V.str a = V.str b))) H) : rEq (.str a) (.str b) H Q := ⟨rfl, q⟩
theorem rd_neZ {a b : Str} (q : Q (.bl (!decide (V.str a = V.str b))) H) : rNe (.str a) (.str b) H Q := ⟨rfl, q⟩
theorem rd_chain {r r' : R2} {tc : TE} (q : ta σ H fun x H1 => tb σ H1 fun y H2 => r x y H2 fun z H3 => ∃ k, z = .bl k ∧ (if k = true then tc σ H3 fun w' H4 => r' y w' H4 Q else Q (.bl false) H3)) : tChain r r' ta tb tc σ H Q := q
theorem rd_m1 {r : V → List V → Hp → VK → Prop} (q : ta σ H fun x H1 => (∃ a, x = .str a) ∧ te σ H1 fun y H2 => r x [y] H2 Q) : tM1 r ta te σ H Q := q
theorem rd_isZ {a : Str} {B : Prop} (q : B) : (∃ a', V.str a = .str a') ∧ B := ⟨⟨a, rfl⟩, q⟩
theorem rd_gtup {K : PySem.W.Frag} {tg : TGs} {n : Nat} {p : Addr} {xs : List V} (hT : H p = some (.tup xs)) (hn : xs.length = n) (q : tg xs σ H R) : gTup K n tg (.ref p) σ H R := ⟨p, xs, rfl, SqT.of hT, hn, q⟩
theorem rd_gcons {tg : TG} {tgs : TGs} {r : List V} (q : tg v σ H fun σ' H' => tgs r σ' H' R) : gCons tg tgs (v :: r) σ H R := ⟨v, r, rfl, q⟩
theorem rd_gnil (q : R σ H) : gNil [] σ H R := ⟨rfl, q⟩
theorem rd_is {tl : TE} {RI : It → Hp → Prop} (q : tl σ H fun v H1 => ∃ x, v = .str x ∧ RI (Its x) H1) : iStr tl σ H RI := q
theorem rd_isx {x : Str} {B : Str → Prop} (q : B x) : ∃ x', V.str x = .str x' ∧ B x' := ⟨x, rfl, q⟩
theorem rd_il {K : PySem.W.Frag} {tl : TE} {R : It → Hp → Prop} (q : tl σ H fun x H1 => ∃ a, x = .ref a ∧ (∃ xs, SqL K H1 a xs) ∧ R (Itl K a) H1) : iList K tl σ H R := q
theorem rd_part {QO : Option Int → Hp → Prop} (q : te σ H fun x H1 => ∃ i, x = .int i ∧ QO (some i) H1) : tPart te σ H QO := q
theorem rd_partI {QI : Int → Prop} (q : QI i) : ∃ i', V.int i = .int i' ∧ QI i' := ⟨i, rfl, q⟩
theorem rd_bm {K : PySem.W.Frag} {T : String} {r : V → List V → Hp → VK → Prop} (q : te σ H fun x H1 => tyV K T x H1 ∧ tr σ H1 fun xs H2 => r x xs H2 Q) : tBM K T r te tr σ H Q := q
theorem rd_bm0 {K : PySem.W.Frag} {T : String} {r : V → List V → Hp → VK → Prop} (q : te σ H fun x H1 => tyV K T x H1 ∧ r x [] H1 Q) : tBM0 K T r te σ H Q := q
theorem rd_tyL {K : PySem.W.Frag} {p : Addr} {xs : List V} {B : Prop} (hs : H p = some (.lst xs)) (q : B) : tyV K "list" (.ref p) H ∧ B := ⟨.inl ⟨rfl, _, SqL.of hs⟩, q⟩
theorem rd_app {p : Addr} {xs : List V} (hs : H p = some (.lst xs)) (hz : xs.length < 1000) (q : Q .non (upd H p (.lst (xs ++ [y])))) : rAppend (.ref p) [y] H Q := ⟨p, xs, y, rfl, rfl, hs, small1000 (Nat.le_of_lt hz), q⟩
theorem rd_cat {p r : Addr} {xs ys : List V} (hx : H p = some (.lst xs)) (hy : H r = some (.lst ys)) (hz : xs.length + ys.length ≤ 1000) (q : ∀ n, H n = none → Q (.ref n) (upd H n (.lst (xs ++ ys)))) : rCat (.ref p) (.ref r) H Q :=
  ⟨p, r, xs, ys, rfl, rfl, hx, hy, Nat.le_of_lt (small1000 hz), q⟩
theorem rd_max {K : PySem.W.Frag} {p : Addr} {ns : List Int} (hs : SqL K H p (ns.map V.int)) (h0 : 0 < ns.length) (q : ∀ m, m ∈ ns → (∀ y, y ∈ ns → y ≤ m) → Q (.int m) H) : rMax K [.ref p] H Q := ⟨p, ns, rfl, hs, h0, q⟩
theorem rd_minL {K : PySem.W.Frag} {p : Addr} {ns : List Int} (hs : SqL K H p (ns.map V.int)) (h0 : 0 < ns.length) (q : ∀ m, m ∈ ns → (∀ y, y ∈ ns → m ≤ y) → Q (.int m) H) : rMin K [.ref p] H Q := ⟨p, ns, rfl, hs, h0, q⟩
theorem rd_sum {K : PySem.W.Frag} {p : Addr} {ns : List Int} (hs : SqL K H p (ns.map V.int)) (q : Q (.int ns.sum) H) : rSum K [.ref p] H Q := ⟨p, ns, rfl, hs, q⟩
theorem rd_eqB {a b : Bool} (q : Q (.bl (decide (V.bl a = V.bl b))) H) : rEq (.bl a) (.bl b) H Q := ⟨rfl, q⟩
theorem rd_neB {a b : Bool} (q : Q (.bl (!decide (V.bl a = V.bl b))) H) : rNe (.bl a) (.bl b) H Q := ⟨rfl, q⟩
theorem rd_isB {a b : Bool} (q : Q (.bl (decide (a = b))) H) : rIsB (.bl a) (.bl b) H Q := ⟨a, b, rfl, rfl, q⟩
theorem rd_niB {a b : Bool} (q : Q (.bl (!decide (a = b))) H) : rNotB (.bl a) (.bl b) H Q := ⟨a, b, rfl, rfl, q⟩
/- tests whose answer is known -/
theorem rd_yes {p : Prop} [Decidable p] {A B : Prop} (hp : p) (h : A) : if decide p = true then A else B := by
  rw [if_pos (decide_eq_true hp)]
  exact h
theorem rd_nay {p : Prop} [Decidable p] {A B : Prop} (hp : ¬ p) (h : B) : if decide p = true then A else B := by
  rw [if_neg (by rw [decide_eq_false hp]; exact Bool.false_ne_true)]
  exact h
theorem rd_split {p : Prop} [Decidable p] {A B : Prop} (h1 : p → A) (h2 : ¬ p → B) : if decide p = true then A else B := by
  by_cases hp : p
  · exact rd_yes hp (h1 hp)
  · exact rd_nay hp (h2 hp)
theorem rd_splitN {p : Prop} [Decidable p] {A B : Prop} (h1 : ¬ p → A) (h2 : p → B) : if (!decide p) = true then A else B := by
  by_cases hp : p
  · rw [decide_eq_true hp]
    exact iteF (h2 hp)
  · rw [decide_eq_false hp]
    exact iteT (h1 hp)
theorem rd_nt {A B : Prop} (h : B) : if (!true) = true then A else B := iteF h
theorem rd_nf {A B : Prop} (h : A) : if (!false) = true then A else B := iteT h
theorem intEq : (V.int i = V.int j) = (i = j) := propext ⟨fun h => V.int.inj h, fun h => by rw [h]⟩
/- builtins by names of ours (the readings have a head then) -/
def rLenL (K : PySem.W.Frag) : List V → Hp → VK → Prop := fun xs H Q => ∃ p ys, xs = [.ref p] ∧ (SqL K H p ys ∨ SqT K H p ys) ∧ Q (.int ys.length) H
theorem call_lenL {X : Cx} : CallR X (.builtin "len") (rLenL X.K) := call_len_seq
theorem rd_len {K : PySem.W.Frag} {p : Addr} {ys : List V} (hs : SqL K H p ys) (q : Q (.int ys.length) H) : rLenL K [.ref p] H Q := ⟨p, ys, rfl, .inl hs, q⟩
theorem rd_lenT {K : PySem.W.Frag} {p : Addr} {ys : List V} (hs : SqT K H p ys) (q : Q (.int ys.length) H) : rLenL K [.ref p] H Q := ⟨p, ys, rfl, .inr hs, q⟩
def rLenZ : List V → Hp → VK → Prop := fun xs H Q => ∃ z, xs = [.str z] ∧ z.length ≤ sizeLine ∧ Q (.int z.length) H
theorem call_lenZ {X : Cx} : CallR X (.builtin "len") rLenZ := call_len_str
theorem rd_lenZ {z : Str} (h : z.length ≤ sizeLine) (q : Q (.int z.length) H) : rLenZ [.str z] H Q := ⟨z, rfl, h, q⟩
def rIntB : List V → Hp → VK → Prop := fun xs H Q => (∃ i, xs = [.int i] ∧ Q (.int i) H) ∨ ∃ k, xs = [.bl k] ∧ Q (.int (if k then 1 else 0)) H
theorem call_intB {X : Cx} : CallR X (.type "int") rIntB := call_int1
theorem rd_int (q : Q (.int (if k then 1 else 0)) H) : rIntB [.bl k] H Q := .inr ⟨k, rfl, q⟩
def rMin2 : List V → Hp → VK → Prop := fun xs H Q => ∃ i j, xs = [.int i, .int j] ∧ Q (.int (if j < i then j else i)) H
theorem call_minI {X : Cx} (hc : X.calm = true) : CallR X (.builtin "min") rMin2 := call_min2 hc
theorem rd_min (q : Q (.int (if j < i then j else i)) H) : rMin2 [.int i, .int j] H Q := ⟨i, j, rfl, q⟩
def rLst (K : PySem.W.Frag) : List V → Hp → VK → Prop := fun xs H Q => ∃ p ys, xs = [.ref p] ∧ (SqL K H p ys ∨ SqT K H p ys) ∧ ∀ l, H l = none → Q (.ref l) (upd H l (.lst ys))
theorem call_lstL {X : Cx} : CallR X (.type "list") (rLst X.K) := call_list_of
theorem rd_lstOf {K : PySem.W.Frag} {p : Addr} {ys : List V} (hs : SqL K H p ys) (q : ∀ l, H l = none → Q (.ref l) (upd H l (.lst ys))) : rLst K [.ref p] H Q := ⟨p, ys, rfl, .inl hs, q⟩
theorem rd_lstOfT {K : PySem.W.Frag} {p : Addr} {ys : List V} (hs : SqT K H p ys) (q : ∀ l, H l = none → Q (.ref l) (upd H l (.lst ys))) : rLst K [.ref p] H Q := ⟨p, ys, rfl, .inr hs, q⟩
/- isinstance -/
theorem rd_isi {K : PySem.W.Frag} {z w : V} {t' u' : Value} (ty : TyX K H z t') (kc : ClsV w u') (e : PySem.W.kitOne K t' u' = some k) (q : Q (.bl k) H) : rIsi K [z, w] H Q := ⟨z, w, t', u', k, rfl, kc, ty, e, q⟩
theorem rd_isiII {K : PySem.W.Frag} (q : Q (.bl true) H) : rIsi K [.int i, .ty "int"] H Q := rd_isi (.base (.int i)) (.ty _) (kit_ty (by decide +kernel)) q
theorem rd_isiIB {K : PySem.W.Frag} (q : Q (.bl false) H) : rIsi K [.int i, .ty "bool"] H Q := rd_isi (.base (.int i)) (.ty _) (kit_ty (by decide +kernel)) q
theorem rd_isiBB {K : PySem.W.Frag} (q : Q (.bl true) H) : rIsi K [.bl k, .ty "bool"] H Q := rd_isi (.base (.bl k)) (.ty _) (kit_ty (by decide +kernel)) q
theorem rd_isiL {K : PySem.W.Frag} {p : Addr} {ys : List V} (hs : H p = some (.lst ys)) (q : Q (.bl true) H) : rIsi K [.ref p, .ty "list"] H Q := rd_isi (.base (.lst hs)) (.ty _) (kit_ty (by decide +kernel)) q
theorem rd_isiT {K : PySem.W.Frag} {p : Addr} {ys : List V} (hs : H p = some (.tup ys)) (q : Q (.bl true) H) : rIsi K [.ref p, .ty "tuple"] H Q := rd_isi (.base (.tup hs)) (.ty _) (kit_ty (by decide +kernel)) q
theorem rd_isiS {K : PySem.W.Frag} {z : Str} (q : Q (.bl true) H) : rIsi K [.str z, .ty "str"] H Q := rd_isi (.base (.str z)) (.ty _) (kit_ty (by decide +kernel)) q
end
/-- a fact of a decided number at a literal list -/
theorem same_new {H : Hp} {p : Addr} {o : HO} (h : H p = none) : Same H (upd H p o) := fun b x e => by
  rw [upd_ne (ne_of_none e h)]
  exact e
theorem same_to {H H1 : Hp} {p : Addr} {o : HO} (a : Same H H1) (h : H1 p = none) : Same H (upd H1 p o) := a.trans (same_new h)
/-- one that H does not track may be written -/
theorem same_put {H H1 : Hp} {p : Addr} {o : HO} (a : Same H H1) (h : H p = none) : Same H (upd H1 p o) := fun b x e => by
  rw [upd_ne (ne_of_none e h)]
  exact a b x e
end Eb
namespace Eb
open PySem PySem.Spec PyProof.Rows L2
section
variable {H : Hp} {Q : VK} {K : PySem.W.Frag} {a D : Addr} {d : Option Addr} {b : Bool} {c : V} {cv : Value}
theorem rd_isH (st : Stood H a D d) (C : HeldC K D) (kc : ClsV c cv) (e : PySem.W.kitOne K (.ref D) cv = some b) (q : Q (.bl b) H) : rIsH K [.ref a, c] H Q := ⟨a, D, d, c, cv, b, rfl, st, C, kc, e, q⟩
theorem rd_isHT {tp : Addr} {cs : List V} {us : List Value} (st : Stood H a D d) (C : HeldC K D) (hT : H tp = some (.tup cs)) (kc : Paired ClsV cs us) (e : PySem.W.kitAny K (.ref D) us = some b) (q : Q (.bl b) H) : rIsHT K [.ref a, .ref tp] H Q :=
  ⟨a, D, tp, d, cs, us, b, rfl, st, C, hT, kc, e, q⟩
theorem stood_new (h : H a = none) : Stood (upd H a (ExH a (.ref D) none)) a D none := ⟨upd_same, fun _ z => nomatch z⟩
theorem Stood.to {p : Addr} {o : HO} (h : H p = none) (t : Stood H a D d) : Stood (upd H p o) a D d :=
  ⟨same_new h _ _ t.1, fun dd e => let ⟨fs, q⟩ := t.2 dd e; ⟨fs, same_new h _ _ q⟩⟩
end
end Eb
/-! more readings -/
namespace Eb
open PySem PySem.Spec PyProof.Rows L2
section
variable {σ : L2.St} {H : Hp} {Q : VK} {D : Ends} {v w x y : V} {ta te : TE} {tr : TA} {i j : Int}
theorem rd_aug {n : Nat} {ti : TIp} (h : σ[n]? = some (some x)) (q : te σ H fun y H1 => ti x y H1 fun z H2 => D.nx (σ.set n (some z)) H2) : tAug n te ti D σ H := ⟨x, h, q⟩
theorem rd_ipI {f : Int → Int → Int} (q : Q (.int (f i j)) H) : ipI f (.int i) (.int j) H Q := ⟨i, j, rfl, rfl, q⟩
theorem rd_par {n m : Nat} (q : tr σ H fun vs H1 => ∃ v w, vs = [v, w] ∧ D.nx ((σ.set n (some v)).set m (some w)) H1) : tPar n m tr D σ H := q
theorem rd_two {B : V → V → Prop} (q : B v w) : ∃ v' w', [v, w] = [v', w'] ∧ B v' w' := ⟨v, w, rfl, q⟩
theorem rd_izip {K : PySem.W.Frag} {R : It → Hp → Prop} (q : tr σ H fun vs H1 => ∃ a b xs ys, vs = [.ref a, .ref b] ∧ SqL K H1 a xs ∧ SqL K H1 b ys ∧ R (Itz K a b) H1) : iZip K tr σ H R := q
theorem rd_clear {p : Addr} {xs : List V} (h : H p = some (.lst xs)) (q : Q .non (upd H p (.lst []))) : rClear (.ref p) [] H Q := ⟨p, xs, rfl, rfl, h, q⟩
theorem rd_rep {p : Addr} {xs : List V} {k : Int} (h : H p = some (.lst xs)) (h0 : 0 ≤ k) (h1 : k ≤ 1000) (hl : xs.length * k.toNat ≤ 1000) (q : ∀ n, H n = none → Q (.ref n) (upd H n (.lst (List.replicate k.toNat xs).flatten))) : rRep (.ref p) (.int k) H Q :=
  ⟨p, k, xs, rfl, rfl, h, by omega, by omega, Nat.le_of_lt (small1000 hl), q⟩
theorem rd_index {K : PySem.W.Frag} {p : Addr} {ns : List Int} {m : Int} (hs : SqL K H p (ns.map V.int)) (hm : m ∈ ns) (q : Q (.int (ns.idxOf m : Nat)) H) : rIndex K (.ref p) [.int m] H Q := by
  have hlt : ns.idxOf m < ns.length := List.idxOf_lt_length_iff.mpr hm
  refine ⟨p, ns.map V.int, .int m, ns.idxOf m, .int m, rfl, rfl, hs, rfl, ?_, ?_, ?_, ?_, q⟩
  · rw [List.all_map]
    exact List.all_eq_true.mpr fun _ _ => rfl
  · rw [List.getElem?_map, List.getElem?_eq_getElem hlt, List.getElem_idxOf]
    rfl
  · show (m == m) = true
    exact beq_self_eq_true m
  · intro k z hk hz
    rw [List.getElem?_map, List.getElem?_eq_getElem (by omega)] at hz
    cases hz
    show (_ == m) = false
    have := List.not_of_lt_findIdx (p := (· == m)) (xs := ns) (i := k) hk
    simpa using this
theorem tab_succ (g : Nat → Int) (i : Nat) : (((List.range (i + 1)).map g).map V.int) = ((List.range i).map g).map V.int ++ [V.int (g i)] := by
  rw [List.range_succ, List.map_append, List.map_append]
  rfl
theorem tab_len (g : Nat → Int) (i : Nat) : (((List.range i).map g).map V.int).length = i := by
  rw [List.length_map, List.length_map, List.length_range]
theorem int_at {ns : List Int} {k : Nat} {z : Int} (h : ns[k]? = some z) : (ns.map V.int)[k]? = some (V.int z) := by
  rw [List.getElem?_map, h]
  rfl
theorem cut_to {ns : List Int} {k : Nat} : cutV (ns.map V.int) none (some (k : Int)) = (ns.take k).map V.int := by
  unfold cutV
  rw [HT.sIx_none, HT.sIx_nat, List.drop_zero, Nat.sub_zero, List.map_take, List.length_map]
  by_cases c : k ≤ ns.length
  · rw [Nat.min_eq_left c]
  · rw [Nat.min_eq_right (by omega), List.take_of_length_le (by rw [List.length_map]; exact Nat.le_refl _), List.take_of_length_le (by rw [List.length_map]; omega)]
theorem cut_from {ns : List Int} {k : Nat} : cutV (ns.map V.int) (some (k : Int)) none = (ns.drop k).map V.int := by
  unfold cutV
  rw [HT.sIx_none, HT.sIx_nat, List.map_drop, List.length_map]
  by_cases c : k ≤ ns.length
  · rw [Nat.min_eq_left c, List.take_of_length_le (by rw [List.length_drop, List.length_map]; exact Nat.le_refl _)]
  · rw [Nat.min_eq_right (by omega), List.drop_of_length_le (by rw [List.length_map]; exact Nat.le_refl _), List.drop_of_length_le (by rw [List.length_map]; omega), List.take_nil]
theorem cut_mid {ns : List Int} {a b : Nat} (h : a ≤ b) (hb : b ≤ ns.length) : cutV (ns.map V.int) (some (a : Int)) (some (b : Int)) = ((ns.drop a).take (b - a)).map V.int := by
  unfold cutV
  rw [HT.sIx_nat, HT.sIx_nat, List.length_map, Nat.min_eq_left (show a ≤ ns.length by omega), Nat.min_eq_left hb, List.map_take, List.map_drop]
end
/- rules whose reading names K alone (for what stands in a comprehension) -/
section
variable {X : Cx} {K : PySem.W.Frag}
theorem ixK (h : X.K = K) : IxR X (rIxL K) := by subst h; exact ix_list
theorem ixTK (h : X.K = K) : IxR X (rIxT K) := by subst h; exact ix_tup
theorem slK (h : X.K = K) : SlR X (rSlL K) := by subst h; exact sl_list
theorem sumK (h : X.K = K) (hc : X.calm = true) : CallR X (.builtin "sum") (rSum K) := by subst h; exact cr_sum hc
theorem lenK (h : X.K = K) : CallR X (.builtin "len") (rLenL K) := by subst h; exact call_lenL
theorem bt_sum : bootBuiltins "sum" = some (.builtin "sum") := by decide +kernel
end
section
variable {X : Cx} {σ : L2.St} {H : Hp} {Q : VK} {tr : TA} {D : Ends} {v : V} {p : Addr} {R : It → Hp → Prop}
def rIsN : R2 := fun x y H Q => y = .non ∧ Q (.bl (decide (x = .non))) H
def rNotN : R2 := fun x y H Q => y = .non ∧ Q (.bl (!decide (x = .non))) H
theorem opIsN : OpR X (compareOp .Is) rIsN := op_isN
theorem opNotN : OpR X (compareOp .IsNot) rNotN := op_notN
theorem rd_isNN (q : Q (.bl true) H) : rIsN .non .non H Q := ⟨rfl, q⟩
theorem rd_isNR (q : Q (.bl false) H) : rIsN (.ref p) .non H Q := ⟨rfl, q⟩
theorem rd_notNN (q : Q (.bl false) H) : rNotN .non .non H Q := ⟨rfl, q⟩
theorem rd_notNR (q : Q (.bl true) H) : rNotN (.ref p) .non H Q := ⟨rfl, q⟩
theorem rd_rng2 (q : tr σ H fun vs H1 => ∃ i j : Int, vs = [.int i, .int j] ∧ (-(2 ^ 62) ≤ i ∧ i < 2 ^ 62 ∧ -(2 ^ 62) ≤ j ∧ j < 2 ^ 62) ∧ R (Itr i (j - i).toNat) H1) : iRng2 tr σ H R := q
theorem rd_it {K : PySem.W.Frag} {tl : TE} (q : tl σ H fun x H1 => ∃ a, x = .ref a ∧ (∃ xs, SqT K H1 a xs) ∧ R (Itt K a) H1) : iTup K tl σ H R := q
end
/-- a statement of a block by what holds behind it -/
theorem rd_cut {t u : TS} {D : Ends} {σ : L2.St} {H : Hp} (P : L2.St → Hp → Prop) (h1 : ∀ U : L2.St → Hp → Prop, (∀ σ' H', P σ' H' → U σ' H') → t { D with nx := U } σ H) (h2 : ∀ σ' H', P σ' H' → u D σ' H') : tSeq t u D σ H := h1 (u D) h2
theorem ix_ok {n : Nat} {i : Int} (h0 : 0 ≤ i) (h1 : i < n) : ixN n i = some i.toNat := by
  unfold ixN
  rw [if_pos h0, if_pos (by omega)]
theorem cut_any (ns : List Int) (lo hi : Option Int) : ∃ ms : List Int, cutV (ns.map V.int) lo hi = ms.map V.int ∧ (∀ x ∈ ms, x ∈ ns) ∧ ms.length ≤ ns.length := by
  refine ⟨(ns.drop (HT.sIx ns.length 0 lo)).take (HT.sIx ns.length ns.length hi - HT.sIx ns.length 0 lo), ?_, fun x hx => List.mem_of_mem_drop (List.mem_of_mem_take hx), ?_⟩
  · unfold cutV
    rw [List.length_map, List.map_take, List.map_drop]
  · rw [List.length_take, List.length_drop]
    omega
theorem cut_len_from {ns ms : List Int} {k : Nat} {hi : Int} (h : cutV (ns.map V.int) (some (k : Int)) (some hi) = ms.map V.int) (h0 : 0 ≤ hi) : ms.length ≤ hi.toNat - k := by
  have := congrArg List.length h
  obtain ⟨j, rfl⟩ : ∃ j : Nat, hi = j := ⟨_, (Int.toNat_of_nonneg h0).symm⟩
  unfold cutV at this
  rw [HT.sIx_nat, HT.sIx_nat, List.length_take, List.length_drop, List.length_map, List.length_map] at this
  rw [Int.toNat_natCast]
  omega
end Eb
namespace Eb
open PySem PySem.Spec PyProof.Rows L2
local macro_rules | `(tactic| walk_at "rd") => `(tactic| (first
  | with_reducible refine rd_seq ?_ | with_reducible refine rd_asg ?_ | with_reducible refine rd_op ?_ | ((with_reducible refine' rd_var ?hrd ?_); (case hrd => rfl)) | with_reducible refine rd_c ?_
  | with_reducible refine rd_I0 ?_ | ((with_reducible refine rd_I (C := CDiv) ?hrd ?_); (case hrd => exact ⟨by decide, by decide⟩)) | ((with_reducible refine rd_I (C := fun _ j => 0 < j) ?hrd ?_); (case hrd => (first | omega | decide | assumption)))
  | ((with_reducible refine rd_I (C := CPow) ?hrd ?_); (case hrd => exact ⟨by decide, by decide, by decide⟩))
  | ((with_reducible refine rd_I (C := CMul) ?hrd ?_); (case hrd => (first | exact .inl ⟨by decide, by decide⟩ | exact .inr ⟨by decide, by decide⟩ | (unfold CMul; omega))))
  | with_reducible refine rd_U ?_ | with_reducible refine rd_un ?_ | with_reducible refine rd_eqI ?_ | with_reducible refine rd_neI ?_ | with_reducible refine rd_cons ?_ | with_reducible refine rd_nil ?_ | with_reducible refine rd_cb ?_
  | with_reducible refine rd_call ?_ | with_reducible refine rd_callS ?_ | with_reducible refine rd_test ?_ | with_reducible refine rd_tb ?_ | with_reducible refine rd_bl ?_ | with_reducible refine rd_and ?_ | with_reducible refine rd_or ?_
  | with_reducible refine rd_not ?_ | with_reducible refine rd_andV ?_ | with_reducible refine rd_orV ?_ | with_reducible refine rd_notV ?_ | with_reducible refine rd_ifE ?_ | with_reducible refine rd_gn ?_ | with_reducible refine rd_ret ?_
  | with_reducible refine rd_ifS ?_ | with_reducible refine rd_drop ?_ | with_reducible refine rd_next ?_ | with_reducible refine rd_tup ?_ | with_reducible refine rd_lst ?_ | with_reducible refine rd_sl ?_ | with_reducible refine rd_no ?_
  | ((with_reducible refine' rd_len ?hrd ?_); (case hrd => assumption)) | ((with_reducible refine' rd_lenT ?hrd ?_); (case hrd => assumption)) | with_reducible refine rd_int ?_ | with_reducible refine rd_min ?_ | with_reducible refine rd_isiII ?_ | with_reducible refine rd_isiIB ?_ | with_reducible refine rd_isiBB ?_ | with_reducible refine rd_isiS ?_ | ((with_reducible refine' rd_isiL ?hrd ?_); (case hrd => assumption)) | ((with_reducible refine' rd_isiT ?hrd ?_); (case hrd => assumption))
  | with_reducible refine rd_for ?_ | with_reducible refine rd_lc ?_ | with_reducible refine rd_tyes ?_ | with_reducible refine rd_rng1 ?_ | with_reducible refine rd_gsub ?_ | with_reducible refine rd_lrg ?_ | with_reducible refine rd_rg1 ?_ | with_reducible refine rd_eqZ ?_ | with_reducible refine rd_neZ ?_ | with_reducible refine rd_chain ?_ | with_reducible refine rd_m1 ?_ | with_reducible refine rd_isZ ?_ | ((with_reducible refine' rd_gtup ?hrd ?hrn ?_); (case hrd => assumption); (case hrn => rfl)) | with_reducible refine rd_gcons ?_ | with_reducible refine rd_gnil ?_ | with_reducible refine rd_is ?_ | with_reducible refine rd_isx ?_
  | with_reducible refine rd_il ?_ | with_reducible refine rd_part ?_ | with_reducible refine rd_partI ?_ | with_reducible refine rd_bm ?_ | with_reducible refine rd_bm0 ?_ | with_reducible refine rd_eqB ?_ | with_reducible refine rd_neB ?_ | with_reducible refine rd_isB ?_ | with_reducible refine rd_niB ?_
  | with_reducible refine rd_nt ?_ | with_reducible refine rd_nf ?_ | with_reducible refine iteT ?_ | with_reducible refine iteF ?_
  | ((with_reducible refine' rd_aug ?hrd ?_); (case hrd => rfl)) | with_reducible refine rd_ipI ?_ | with_reducible refine rd_par ?_ | with_reducible refine rd_two ?_ | with_reducible refine rd_izip ?_
  | with_reducible refine rd_isNN ?_ | with_reducible refine rd_isNR ?_ | with_reducible refine rd_notNN ?_ | with_reducible refine rd_notNR ?_ | with_reducible refine rd_rng2 ?_))
def topS (i : Nat) : Stmt := PySem.Challenge.pw_evenbeat_k08_whole_even_or_fault.main.body.getD i (.Pass ⟨0, 0, 0, 0⟩)
abbrev s_look_at_wheel : Stmt := topS 8
abbrev N_look_at_wheel : List Str := ["strokes", "places"]
theorem sc_look_at_wheel : FnScope N_look_at_wheel ["strokes", "places"] (defScope s_look_at_wheel) := ⟨rfl, rfl, rfl, by decide +kernel, rfl, by decide +kernel, by decide +kernel⟩
abbrev s_look_at_row : Stmt := topS 9
abbrev N_look_at_row : List Str := ["strokes", "places"]
theorem sc_look_at_row : FnScope N_look_at_row ["strokes", "places"] (defScope s_look_at_row) := ⟨rfl, rfl, rfl, by decide +kernel, rfl, by decide +kernel, by decide +kernel⟩
abbrev s_ahead : Stmt := topS 10
abbrev N_ahead : List Str := ["strokes", "places", "at"]
theorem sc_ahead : FnScope N_ahead ["strokes", "places", "at"] (defScope s_ahead) := ⟨rfl, rfl, rfl, by decide +kernel, rfl, by decide +kernel, by decide +kernel⟩
abbrev s_has_stroke : Stmt := topS 11
abbrev N_has_stroke : List Str := ["strokes", "places", "at"]
theorem sc_has_stroke : FnScope N_has_stroke ["strokes", "places", "at"] (defScope s_has_stroke) := ⟨rfl, rfl, rfl, by decide +kernel, rfl, by decide +kernel, by decide +kernel⟩
abbrev s_laid : Stmt := topS 12
abbrev N_laid : List Str := ["strokes", "places", "at"]
theorem sc_laid : FnScope N_laid ["strokes", "places"] (defScope s_laid) := ⟨rfl, rfl, rfl, by decide +kernel, rfl, by decide +kernel, by decide +kernel⟩
abbrev s_counts : Stmt := topS 14
abbrev N_counts : List Str := ["row", "width", "many", "told", "at"]
theorem sc_counts : FnScope N_counts ["row", "width"] (defScope s_counts) := ⟨rfl, rfl, rfl, by decide +kernel, rfl, by decide +kernel, by decide +kernel⟩
abbrev s_fault : Stmt := topS 15
abbrev N_fault : List Str := ["row", "width", "many"]
theorem sc_fault : FnScope N_fault ["row"] (defScope s_fault) := ⟨rfl, rfl, rfl, by decide +kernel, rfl, by decide +kernel, by decide +kernel⟩
abbrev s_turned : Stmt := topS 16
abbrev N_turned : List Str := ["row", "by", "at"]
theorem sc_turned : FnScope N_turned ["row", "by"] (defScope s_turned) := ⟨rfl, rfl, rfl, by decide +kernel, rfl, by decide +kernel, by decide +kernel⟩
abbrev s_start : Stmt := topS 17
abbrev N_start : List Str := ["row", "found", "due", "by"]
theorem sc_start : FnScope N_start ["row"] (defScope s_start) := ⟨rfl, rfl, rfl, by decide +kernel, rfl, by decide +kernel, by decide +kernel⟩
abbrev s_cell_at : Stmt := topS 19
abbrev N_cell_at : List Str := ["_law_script", "_law_k"]
theorem sc_cell_at : FnScope N_cell_at ["_law_script", "_law_k"] (defScope s_cell_at) := ⟨rfl, rfl, rfl, by decide +kernel, rfl, by decide +kernel, by decide +kernel⟩
abbrev s_whole : Stmt := topS 20
abbrev N_whole : List Str := ["_law_found"]
theorem sc_whole : FnScope N_whole ["_law_found"] (defScope s_whole) := ⟨rfl, rfl, rfl, by decide +kernel, rfl, by decide +kernel, by decide +kernel⟩
abbrev s_alike : Stmt := topS 21
abbrev N_alike : List Str := ["_law_found", "_law_due", "_law_one", "_law_other"]
theorem sc_alike : FnScope N_alike ["_law_found", "_law_due"] (defScope s_alike) := ⟨rfl, rfl, rfl, by decide +kernel, rfl, by decide +kernel, by decide +kernel⟩
abbrev s_sums_row : Stmt := topS 22
abbrev N_sums_row : List Str := ["_law_strokes", "_law_places", "_law_at"]
theorem sc_sums_row : FnScope N_sums_row ["_law_strokes", "_law_places"] (defScope s_sums_row) := ⟨rfl, rfl, rfl, by decide +kernel, rfl, by decide +kernel, by decide +kernel⟩
abbrev s_changed : Stmt := topS 23
abbrev N_changed : List Str := ["_law_row_here", "_law_script", "_law_places", "_law_way", "_law_spots", "_law_at", "_law_behind", "_law_kept", "_law_cell"]
theorem sc_changed : FnScope N_changed ["_law_row_here", "_law_script"] (defScope s_changed) := ⟨rfl, rfl, rfl, by decide +kernel, rfl, by decide +kernel, by decide +kernel⟩
abbrev s_made : Stmt := topS 24
abbrev N_made : List Str := ["_law_script", "_law_places", "_law_row_here", "_law_by", "_law_at", "_law_one"]
theorem sc_made : FnScope N_made ["_law_script"] (defScope s_made) := ⟨rfl, rfl, rfl, by decide +kernel, rfl, by decide +kernel, by decide +kernel⟩
abbrev s_row : Stmt := topS 25
abbrev N_row : List Str := ["_law_script", "_law_head", "_law_row_here", "_law_cell"]
theorem sc_row : FnScope N_row ["_law_script"] (defScope s_row) := ⟨rfl, rfl, rfl, by decide +kernel, rfl, by decide +kernel, by decide +kernel⟩
abbrev s_even : Stmt := topS 26
abbrev N_even : List Str := ["_law_row_here", "_law_places", "_law_due", "_law_handed", "_law_found", "_law_twice", "_law_at"]
theorem sc_even : FnScope N_even ["_law_row_here"] (defScope s_even) := ⟨rfl, rfl, rfl, by decide +kernel, rfl, by decide +kernel, by decide +kernel⟩
abbrev s_own_counts : Stmt := topS 27
abbrev N_own_counts : List Str := ["_law_heads", "_law_places", "_law_width", "_law_at"]
theorem sc_own_counts : FnScope N_own_counts ["_law_heads", "_law_places", "_law_width"] (defScope s_own_counts) := ⟨rfl, rfl, rfl, by decide +kernel, rfl, by decide +kernel, by decide +kernel⟩
abbrev s_own_fault : Stmt := topS 28
abbrev N_own_fault : List Str := ["_law_row_here", "_law_found", "_law_places", "_law_heads", "_law_one", "_law_width", "_law_some"]
theorem sc_own_fault : FnScope N_own_fault ["_law_row_here", "_law_found"] (defScope s_own_fault) := ⟨rfl, rfl, rfl, by decide +kernel, rfl, by decide +kernel, by decide +kernel⟩
abbrev s_refused : Stmt := topS 29
abbrev N_refused : List Str := ["_law_row_here", "_law_found", "_law_handed", "_law_error", "e"]
theorem sc_refused : FnScope N_refused ["_law_row_here", "_law_found"] (defScope s_refused) := ⟨rfl, rfl, rfl, by decide +kernel, rfl, by decide +kernel, by decide +kernel⟩
abbrev s_own : Stmt := topS 30
abbrev N_own : List Str := ["_law_cell", "_law_three", "_law_error"]
theorem sc_own : FnScope N_own ["_law_cell"] (defScope s_own) := ⟨rfl, rfl, rfl, by decide +kernel, rfl, by decide +kernel, by decide +kernel⟩
abbrev s_law : Stmt := topS 31
abbrev N_law : List Str := ["_law_script", "_law_row_here", "_law_handed", "_law_found", "_law_one"]
theorem sc_law : FnScope N_law ["_law_script"] (defScope s_law) := ⟨rfl, rfl, rfl, by decide +kernel, rfl, by decide +kernel, by decide +kernel⟩
abbrev s_init_Uneven : Stmt := inClass (topS 5) 0
abbrev N_init_Uneven : List Str := ["self", "width", "most", "least"]
theorem sc_init_Uneven : FnScope N_init_Uneven ["self", "width", "most", "least"] (defScope s_init_Uneven) := ⟨rfl, rfl, rfl, by decide +kernel, rfl, by decide +kernel, by decide +kernel⟩
structure Txt (K : PySem.W.Frag) (mg : Str → Option Value) where
  f_look_at_wheel : Addr
  fd_look_at_wheel : FuncData
  F_look_at_wheel : Fun K "look_at_wheel" "look_at_wheel" s_look_at_wheel f_look_at_wheel fd_look_at_wheel
  k_look_at_wheel : PySem.W.keepIn K (.ref f_look_at_wheel) = true
  g_look_at_wheel : mg "look_at_wheel" = some (.ref f_look_at_wheel)
  b_look_at_wheel : Binds K fd_look_at_wheel ["strokes", "places"] []
  f_look_at_row : Addr
  fd_look_at_row : FuncData
  F_look_at_row : Fun K "look_at_row" "look_at_row" s_look_at_row f_look_at_row fd_look_at_row
  k_look_at_row : PySem.W.keepIn K (.ref f_look_at_row) = true
  g_look_at_row : mg "look_at_row" = some (.ref f_look_at_row)
  b_look_at_row : Binds K fd_look_at_row ["strokes", "places"] []
  f_ahead : Addr
  fd_ahead : FuncData
  F_ahead : Fun K "ahead" "ahead" s_ahead f_ahead fd_ahead
  k_ahead : PySem.W.keepIn K (.ref f_ahead) = true
  g_ahead : mg "ahead" = some (.ref f_ahead)
  b_ahead : Binds K fd_ahead ["strokes", "places", "at"] []
  f_has_stroke : Addr
  fd_has_stroke : FuncData
  F_has_stroke : Fun K "has_stroke" "has_stroke" s_has_stroke f_has_stroke fd_has_stroke
  k_has_stroke : PySem.W.keepIn K (.ref f_has_stroke) = true
  g_has_stroke : mg "has_stroke" = some (.ref f_has_stroke)
  b_has_stroke : Binds K fd_has_stroke ["strokes", "places", "at"] []
  f_laid : Addr
  fd_laid : FuncData
  F_laid : Fun K "laid" "laid" s_laid f_laid fd_laid
  k_laid : PySem.W.keepIn K (.ref f_laid) = true
  g_laid : mg "laid" = some (.ref f_laid)
  b_laid : Binds K fd_laid ["strokes", "places"] []
  f_counts : Addr
  fd_counts : FuncData
  F_counts : Fun K "counts" "counts" s_counts f_counts fd_counts
  k_counts : PySem.W.keepIn K (.ref f_counts) = true
  g_counts : mg "counts" = some (.ref f_counts)
  b_counts : Binds K fd_counts ["row", "width"] []
  f_fault : Addr
  fd_fault : FuncData
  F_fault : Fun K "fault" "fault" s_fault f_fault fd_fault
  k_fault : PySem.W.keepIn K (.ref f_fault) = true
  g_fault : mg "fault" = some (.ref f_fault)
  b_fault : Binds K fd_fault ["row"] []
  f_turned : Addr
  fd_turned : FuncData
  F_turned : FunD K "turned" "turned" (defArgs s_turned) (defBody s_turned) (defScope s_turned) [V.int 1] [] f_turned fd_turned
  k_turned : PySem.W.keepIn K (.ref f_turned) = true
  ds_turned : List Value
  bd_turned : Binds K fd_turned ["row", "by"] ds_turned
  vd_turned : Vals [V.int 1] ds_turned
  g_turned : mg "turned" = some (.ref f_turned)
  b_turned : Binds K fd_turned ["row", "by"] []
  f_start : Addr
  fd_start : FuncData
  F_start : Fun K "start" "start" s_start f_start fd_start
  k_start : PySem.W.keepIn K (.ref f_start) = true
  g_start : mg "start" = some (.ref f_start)
  b_start : Binds K fd_start ["row"] []
  f_cell_at : Addr
  fd_cell_at : FuncData
  F_cell_at : Fun K "_law_cell_at" "_law_cell_at" s_cell_at f_cell_at fd_cell_at
  k_cell_at : PySem.W.keepIn K (.ref f_cell_at) = true
  g_cell_at : mg "_law_cell_at" = some (.ref f_cell_at)
  b_cell_at : Binds K fd_cell_at ["_law_script", "_law_k"] []
  f_whole : Addr
  fd_whole : FuncData
  F_whole : Fun K "_law_whole" "_law_whole" s_whole f_whole fd_whole
  k_whole : PySem.W.keepIn K (.ref f_whole) = true
  g_whole : mg "_law_whole" = some (.ref f_whole)
  b_whole : Binds K fd_whole ["_law_found"] []
  f_alike : Addr
  fd_alike : FuncData
  F_alike : Fun K "_law_alike" "_law_alike" s_alike f_alike fd_alike
  k_alike : PySem.W.keepIn K (.ref f_alike) = true
  g_alike : mg "_law_alike" = some (.ref f_alike)
  b_alike : Binds K fd_alike ["_law_found", "_law_due"] []
  f_sums_row : Addr
  fd_sums_row : FuncData
  F_sums_row : Fun K "_law_sums_row" "_law_sums_row" s_sums_row f_sums_row fd_sums_row
  k_sums_row : PySem.W.keepIn K (.ref f_sums_row) = true
  g_sums_row : mg "_law_sums_row" = some (.ref f_sums_row)
  b_sums_row : Binds K fd_sums_row ["_law_strokes", "_law_places"] []
  f_changed : Addr
  fd_changed : FuncData
  F_changed : Fun K "_law_changed" "_law_changed" s_changed f_changed fd_changed
  k_changed : PySem.W.keepIn K (.ref f_changed) = true
  g_changed : mg "_law_changed" = some (.ref f_changed)
  b_changed : Binds K fd_changed ["_law_row_here", "_law_script"] []
  f_made : Addr
  fd_made : FuncData
  F_made : Fun K "_law_made" "_law_made" s_made f_made fd_made
  k_made : PySem.W.keepIn K (.ref f_made) = true
  g_made : mg "_law_made" = some (.ref f_made)
  b_made : Binds K fd_made ["_law_script"] []
  f_row : Addr
  fd_row : FuncData
  F_row : Fun K "_law_row" "_law_row" s_row f_row fd_row
  k_row : PySem.W.keepIn K (.ref f_row) = true
  g_row : mg "_law_row" = some (.ref f_row)
  b_row : Binds K fd_row ["_law_script"] []
  f_even : Addr
  fd_even : FuncData
  F_even : Fun K "_law_even" "_law_even" s_even f_even fd_even
  k_even : PySem.W.keepIn K (.ref f_even) = true
  g_even : mg "_law_even" = some (.ref f_even)
  b_even : Binds K fd_even ["_law_row_here"] []
  f_own_counts : Addr
  fd_own_counts : FuncData
  F_own_counts : Fun K "_law_counts" "_law_counts" s_own_counts f_own_counts fd_own_counts
  k_own_counts : PySem.W.keepIn K (.ref f_own_counts) = true
  g_own_counts : mg "_law_counts" = some (.ref f_own_counts)
  b_own_counts : Binds K fd_own_counts ["_law_heads", "_law_places", "_law_width"] []
  f_own_fault : Addr
  fd_own_fault : FuncData
  F_own_fault : Fun K "_law_fault" "_law_fault" s_own_fault f_own_fault fd_own_fault
  k_own_fault : PySem.W.keepIn K (.ref f_own_fault) = true
  g_own_fault : mg "_law_fault" = some (.ref f_own_fault)
  b_own_fault : Binds K fd_own_fault ["_law_row_here", "_law_found"] []
  f_refused : Addr
  fd_refused : FuncData
  F_refused : Fun K "_law_refused" "_law_refused" s_refused f_refused fd_refused
  k_refused : PySem.W.keepIn K (.ref f_refused) = true
  g_refused : mg "_law_refused" = some (.ref f_refused)
  b_refused : Binds K fd_refused ["_law_row_here", "_law_found"] []
  f_own : Addr
  fd_own : FuncData
  F_own : Fun K "_law_own" "_law_own" s_own f_own fd_own
  k_own : PySem.W.keepIn K (.ref f_own) = true
  g_own : mg "_law_own" = some (.ref f_own)
  b_own : Binds K fd_own ["_law_cell"] []
  m_range : mg "range" = none
  m_int : mg "int" = none
  m_len : mg "len" = none
  m_sum : mg "sum" = none
  m_max : mg "max" = none
  m_min : mg "min" = none
  m_isinstance : mg "isinstance" = none
  m_bool : mg "bool" = none
  m_zip : mg "zip" = none
  m_list : mg "list" = none
  m_ValueError : mg "ValueError" = none
  m_tuple : mg "tuple" = none
  tok_LONGEST : Tok
  gv_LONGEST : mg "LONGEST" = some (.int 120 tok_LONGEST)
  c_BeatError : Addr
  gc_BeatError : mg "BeatError" = some (.ref c_BeatError)
  c_NoWheel : Addr
  gc_NoWheel : mg "NoWheel" = some (.ref c_NoWheel)
  c_NoStroke : Addr
  gc_NoStroke : mg "NoStroke" = some (.ref c_NoStroke)
  c_NoRow : Addr
  gc_NoRow : mg "NoRow" = some (.ref c_NoRow)
  c_Uneven : Addr
  gc_Uneven : mg "Uneven" = some (.ref c_Uneven)
  x_NoWheel : PySem.W.excIn K c_NoWheel [.type "ValueError", .type "Exception", .type "BaseException", .type "object"] "ValueError.__new__" = true
  kc_NoWheel : PySem.W.keepIn K (.ref c_NoWheel) = true
  sub_NoWheel : PySem.W.subIn K (.ref c_NoWheel) (.type "BaseException") = some true
  ty_NoWheel : PySem.W.typeIn K (.ref c_NoWheel) = some (.type "type")
  h_Uneven : HeldC K c_Uneven
  ve_Uneven : PySem.W.kitOne K (.ref c_Uneven) (.type "ValueError") = some true
  kit_Uneven_BeatError : PySem.W.kitOne K (.ref c_Uneven) (.ref c_BeatError) = some true
  exm_Uneven : PySem.W.exmOne K (.ref c_Uneven) (.ref c_BeatError) = some true
  kit_Uneven_NoWheel : PySem.W.kitOne K (.ref c_Uneven) (.ref c_NoWheel) = some false
  kit_Uneven_NoStroke : PySem.W.kitOne K (.ref c_Uneven) (.ref c_NoStroke) = some false
  kit_Uneven_NoRow : PySem.W.kitOne K (.ref c_Uneven) (.ref c_NoRow) = some false
  kit_Uneven_Uneven : PySem.W.kitOne K (.ref c_Uneven) (.ref c_Uneven) = some true
  f_init_Uneven : Addr
  fd_init_Uneven : FuncData
  F_init_Uneven : Fun K "__init__" "Uneven.__init__" s_init_Uneven f_init_Uneven fd_init_Uneven
  b_init_Uneven : Binds K fd_init_Uneven ["self", "width", "most", "least"] []
  ox_Uneven : OexC K c_Uneven
  iC_Uneven : PySem.W.findIn K (.ref c_Uneven) "__init__" = some (some (.ref f_init_Uneven))
  tI_Uneven : PySem.W.typeIn K (.ref f_init_Uneven) = some (.type "function")
  no_Uneven_width : PySem.W.findIn K (.ref c_Uneven) "width" = some none
  no_Uneven_most : PySem.W.findIn K (.ref c_Uneven) "most" = some none
  no_Uneven_least : PySem.W.findIn K (.ref c_Uneven) "least" = some none
theorem big {x : Int} (h : x.natAbs ≤ 4 * 10 ^ 60) : x.natAbs < 2 ^ 210 := Nat.lt_of_le_of_lt h (by decide)
theorem wider {x : Int} {n m : Nat} (h : x.natAbs < 2 ^ n) (l : n ≤ m) : x.natAbs < 2 ^ m := Nat.lt_of_lt_of_le h (Nat.pow_le_pow_right (by decide) l)
theorem div_small {x p : Int} {n : Nat} (h : x.natAbs < 2 ^ n) : (x / p).natAbs < 2 ^ n := Nat.lt_of_le_of_lt (Int.natAbs_ediv_le_natAbs x p) h
theorem one_more {x : Int} {n : Nat} (h : x.natAbs < 2 ^ n) : (x + 1).natAbs < 2 ^ (n + 1) := by
  have : 0 < 2 ^ n := Nat.two_pow_pos n
  rw [Nat.pow_succ]
  omega
theorem one_less {x : Int} {n : Nat} (h : x.natAbs < 2 ^ n) : (x - 1).natAbs < 2 ^ (n + 1) := by
  have : 0 < 2 ^ n := Nat.two_pow_pos n
  rw [Nat.pow_succ]
  omega
theorem add_small {x y : Int} {n : Nat} (h : x.natAbs < 2 ^ n) (k : y.natAbs < 2 ^ n) : (x + y).natAbs < 2 ^ (n + 1) := by
  have : 0 < 2 ^ n := Nat.two_pow_pos n
  rw [Nat.pow_succ]
  omega
/-! the sums of a wheel -/
theorem floor_le {x p n : Int} (hp : 0 < p) (h : x < (n + 1) * p) : x / p ≤ n := by
  have := (Int.ediv_lt_iff_lt_mul hp (a := x) (b := n + 1)).mpr h
  omega
theorem floor_ge {x p n : Int} (hp : 0 < p) (h : n * p ≤ x) : n ≤ x / p := (Int.le_ediv_iff_mul_le hp).mpr h
theorem floor_is {x p n : Int} (hp : 0 < p) (h : n * p ≤ x) (k : x < (n + 1) * p) : x / p = n := by
  have := floor_le hp k
  have := floor_ge hp h
  omega
theorem round_on {s a p : Int} (h : 1 ≤ p) : s * (a + p) / p = s * a / p + s := by
  rw [Int.mul_add, Int.add_mul_ediv_right _ _ (by omega)]
/-- the place of the stroke with the number n -/
theorem place_here {s p n : Int} (hs : 0 < s) (hsp : s ≤ p) :
    s * (((n + 1) * p - 1) / s) / p = n ∧ s * (((n + 1) * p - 1) / s + 1) / p = n + 1 := by
  have hp : 0 < p := by omega
  have e1 : (n + 1) * p = n * p + p := by rw [Int.add_mul, Int.one_mul]
  have e2 : (n + 1 + 1) * p = n * p + p + p := by rw [Int.add_mul, Int.add_mul, Int.one_mul]
  generalize hX : (n + 1) * p - 1 = X
  have l1 : s * (X / s) ≤ X := Int.mul_ediv_self_le (by omega)
  have l2 : X < s * (X / s) + s := Int.lt_mul_ediv_self_add hs
  have e3 : s * (X / s + 1) = s * (X / s) + s := by rw [Int.mul_add, Int.mul_one]
  refine ⟨floor_is hp ?_ ?_, floor_is hp ?_ ?_⟩
  · omega
  · omega
  · omega
  · omega
theorem floor_add {x y p : Int} (hp : 0 < p) : x / p + y / p ≤ (x + y) / p ∧ (x + y) / p ≤ x / p + y / p + 1 ∧ (y % p = 0 → (x + y) / p = x / p + y / p) := by
  have a1 := Int.mul_ediv_self_le (x := x) (k := p) (by omega)
  have a2 := Int.lt_mul_ediv_self_add (x := x) hp
  have b1 := Int.mul_ediv_self_le (x := y) (k := p) (by omega)
  have b2 := Int.lt_mul_ediv_self_add (x := y) hp
  have e : (x / p + y / p) * p = p * (x / p) + p * (y / p) := by rw [Int.add_mul, Int.mul_comm, Int.mul_comm (y / p)]
  have e1 : (x / p + y / p + 1) * p = p * (x / p) + p * (y / p) + p := by rw [Int.add_mul _ 1, e, Int.one_mul]
  have e2 : (x / p + y / p + 1 + 1) * p = p * (x / p) + p * (y / p) + p + p := by rw [Int.add_mul _ 1, e1, Int.one_mul]
  refine ⟨floor_ge hp ?_, floor_le hp ?_, fun z => floor_is hp ?_ ?_⟩
  · omega
  · omega
  · omega
  · have := Int.mul_ediv_add_emod y p
    omega
/-- one place on: no stroke more or one -/
theorem one_on {s p a : Int} (hp : 0 < p) (h0 : 0 ≤ s) (hs : s ≤ p) : s * a / p ≤ s * (a + 1) / p ∧ s * (a + 1) / p ≤ s * a / p + 1 := by
  have a1 := Int.mul_ediv_self_le (x := s * a) (k := p) (by omega)
  have a2 := Int.lt_mul_ediv_self_add (x := s * a) hp
  have e : s * (a + 1) = s * a + s := by rw [Int.mul_add, Int.mul_one]
  have e1 : s * a / p * p = p * (s * a / p) := Int.mul_comm _ _
  have e2 : (s * a / p + 1 + 1) * p = p * (s * a / p) + p + p := by rw [Int.add_mul, Int.add_mul, Int.one_mul, e1]
  exact ⟨floor_ge hp (by omega), floor_le hp (by omega)⟩
/-- the first and the last stroke of a stretch stand within it -/
theorem stretch_ends {s p a w : Int} (hp : 0 < p) (hs : 0 < s) (hm : s * a / p < s * (a + w) / p) :
    a ≤ ((s * a / p + 1) * p - 1) / s ∧ ((s * (a + w) / p - 1 + 1) * p - 1) / s < a + w ∧ ((s * a / p + 1) * p - 1) / s ≤ ((s * (a + w) / p - 1 + 1) * p - 1) / s := by
  have a2 := Int.lt_mul_ediv_self_add (x := s * a) hp
  have b1 := Int.mul_ediv_self_le (x := s * (a + w)) (k := p) (by omega)
  have e1 : (s * a / p + 1) * p = p * (s * a / p) + p := by rw [Int.add_mul, Int.one_mul, Int.mul_comm]
  have e2 : (s * (a + w) / p - 1 + 1) * p = p * (s * (a + w) / p) := by rw [Int.sub_add_cancel, Int.mul_comm]
  refine ⟨?_, ?_, ?_⟩
  · rw [Int.le_ediv_iff_mul_le hs, Int.mul_comm a s]
    omega
  · rw [Int.ediv_lt_iff_lt_mul hs, Int.mul_comm (a + w) s]
    omega
  · refine Int.ediv_le_ediv hs ?_
    have := Int.mul_le_mul_of_nonneg_right (show s * a / p + 1 ≤ s * (a + w) / p - 1 + 1 by omega) (show 0 ≤ p by omega)
    omega
/-! two lists of ints compared -/
theorem eqv_ints : ∀ (ns ms : List Int), PyData.eqvAll (ns.map PyData.int) (ms.map PyData.int) = decide (ns = ms)
  | [], [] => rfl
  | [], _ :: _ => rfl
  | _ :: _, [] => rfl
  | n :: ns, m :: ms => by
    have ih := eqv_ints ns ms
    show ((n == m) && PyData.eqvAll (ns.map PyData.int) (ms.map PyData.int)) = decide (n :: ns = m :: ms)
    rw [ih]
    by_cases h : n = m
    · by_cases k : ns = ms
      · subst h k
        simp
      · simp [h, k]
    · simp [h]
theorem can_ints : ∀ (ns : List Int), PyData.canLayAll0 (ns.map PyData.int) = true
  | [] => rfl
  | _ :: ns => can_ints ns
theorem deep_ints : ∀ (ns : List Int), PyData.depthAll (ns.map PyData.int) = 0
  | [] => rfl
  | _ :: ns => by
    show max 0 (PyData.depthAll (ns.map PyData.int)) = 0
    rw [deep_ints ns]
    rfl
theorem shaped_ints (ns : List Int) : SeqAt.shaped (.list (ns.map PyData.int)) = true := by
  unfold SeqAt.shaped
  rw [show PyData.canLay0 (.list (ns.map PyData.int)) = true from can_ints ns, show PyData.depth (.list (ns.map PyData.int)) = 1 from congrArg (· + 1) (deep_ints ns)]
  rfl
theorem dp_ints {K : PySem.W.Frag} {H : Hp} : ∀ (ns : List Int), DpAll K H (ns.map V.int) (ns.map PyData.int)
  | [] => .nil
  | n :: ns => .cons (.int n) (dp_ints ns)
theorem rd_eqL {K : PySem.W.Frag} {H : Hp} {Q : VK} {p r : Addr} {ns ms : List Int} (hx : SqL K H p (ns.map V.int)) (hy : SqL K H r (ms.map V.int)) (q : Q (.bl (decide (ns = ms))) H) : rEqD K (.ref p) (.ref r) H Q :=
  ⟨_, _, .lst hx (dp_ints ns), .lst hy (dp_ints ms), shaped_ints ns, shaped_ints ms, by
    rw [show PyData.eqv (.list (ns.map PyData.int)) (.list (ms.map PyData.int)) = decide (ns = ms) from eqv_ints ns ms]
    exact q⟩
/-! sums of the first ones -/
def pre (l : List Int) (k : Nat) : Int := (l.take k).sum
theorem pre_zero (l : List Int) : pre l 0 = 0 := rfl
theorem pre_succ {l : List Int} {k : Nat} {z : Int} (h : l[k]? = some z) : pre l (k + 1) = pre l k + z := sum_take h
theorem pre_all (l : List Int) : pre l l.length = l.sum := by
  unfold pre
  rw [List.take_of_length_le (Nat.le_refl _)]
def headsTo (l : List Int) (i : Nat) : List Int := (List.range (i + 1)).map (pre l)
theorem headsTo_zero (l : List Int) : headsTo l 0 = [0] := rfl
theorem headsTo_succ (l : List Int) (i : Nat) : headsTo l (i + 1) = headsTo l i ++ [pre l (i + 1)] := by
  unfold headsTo
  rw [List.range_succ, List.map_append]
  rfl
theorem headsTo_last (l : List Int) (i : Nat) : ∃ r, headsTo l i = r ++ [pre l i] := by
  unfold headsTo
  rw [List.range_succ, List.map_append]
  exact ⟨_, rfl⟩
theorem headsTo_len (l : List Int) (i : Nat) : (headsTo l i).length = i + 1 := by
  unfold headsTo
  rw [List.length_map, List.length_range]
theorem headsTo_at (l : List Int) {i k : Nat} (h : k ≤ i) : (headsTo l i)[k]? = some (pre l k) := by
  unfold headsTo
  rw [List.getElem?_map, List.getElem?_range (by omega)]
  rfl
/-- of twice a row: the i-th item -/
theorem twice_at {l : List Int} {k : Nat} (h : k < l.length + l.length) : (l ++ l)[k]? = l[k % l.length]? := by
  by_cases c : k < l.length
  · rw [List.getElem?_append_left c, Nat.mod_eq_of_lt c]
  · rw [List.getElem?_append_right (by omega), Nat.mod_eq_sub_mod (by omega), Nat.mod_eq_of_lt (by omega)]
/-! rows told as even by the swing of their sums: at k the sum times the length less k times the whole sum -/
theorem pre_app_le {l m : List Int} {k : Nat} (h : k ≤ l.length) : pre (l ++ m) k = pre l k := by
  unfold pre
  rw [List.take_append_of_le_length h]
theorem pre_app_add (l m : List Int) (j : Nat) : pre (l ++ m) (l.length + j) = l.sum + pre m j := by
  unfold pre
  rw [List.take_length_add_append, List.sum_append_int]
theorem pre_add (l : List Int) (t k : Nat) : pre l (t + k) = pre l t + pre (l.drop t) k := by
  unfold pre
  rw [List.take_add, List.sum_append_int]
theorem pre_take {l : List Int} {n k : Nat} (h : k ≤ n) : pre (l.take n) k = pre l k := by
  unfold pre
  rw [List.take_take, Nat.min_eq_left h]
def Bits (l : List Int) : Prop := ∀ x ∈ l, x = 0 ∨ x = 1
theorem pre_step {l : List Int} (hb : Bits l) {k : Nat} (h : k < l.length) : pre l (k + 1) = pre l k ∨ pre l (k + 1) = pre l k + 1 := by
  rw [pre_succ (List.getElem?_eq_getElem h)]
  rcases hb _ (List.getElem_mem h) with e | e
  · rw [e]
    exact .inl (Int.add_zero _)
  · rw [e]
    exact .inr rfl
theorem bits_twice {l : List Int} (hb : Bits l) : Bits (l ++ l) := fun x hx => (List.mem_append.mp hx).elim (hb x) (hb x)
/-- the strokes of the stretch of a width -/
def cnt (l : List Int) (w a : Nat) : Int := pre (l ++ l) (a + w) - pre (l ++ l) a
def swing (l : List Int) (k : Nat) : Int := (l.length : Int) * pre (l ++ l) k - l.sum * k
def Flat (l : List Int) : Prop := ∀ a b, a ≤ l.length → b ≤ l.length → swing l a - swing l b < l.length
def Bal (l : List Int) (w : Nat) : Prop := ∀ a b, a < l.length → b < l.length → cnt l w a - cnt l w b ≤ 1
theorem twice_round (l : List Int) {j : Nat} (h : j ≤ l.length) : pre (l ++ l) (l.length + j) = l.sum + pre (l ++ l) j := by
  rw [pre_app_add, pre_app_le h]
theorem swing_round (l : List Int) {j : Nat} (h : j ≤ l.length) : swing l (l.length + j) = swing l j := by
  unfold swing
  rw [twice_round l h, Int.mul_add, Int.natCast_add, Int.mul_add, Int.mul_comm l.sum (l.length : Int)]
  omega
theorem swing_all (l : List Int) : swing l l.length = swing l 0 := swing_round l (Nat.zero_le _)
theorem swing_zero (l : List Int) : swing l 0 = 0 := by
  unfold swing
  rw [pre_zero, Int.mul_zero, Int.natCast_zero, Int.mul_zero]
  rfl
theorem cnt_swing (l : List Int) (w a : Nat) : (l.length : Int) * cnt l w a - l.sum * w = swing l (a + w) - swing l a := by
  unfold swing cnt
  rw [Int.mul_sub, Int.natCast_add, Int.mul_add]
  omega
theorem cnt_zero (l : List Int) (a : Nat) : cnt l 0 a = 0 := Int.sub_self _
/-- a flat row at any two places of twice it -/
theorem flat_any {l : List Int} (hf : Flat l) {a b : Nat} (ha : a ≤ l.length + l.length) (hb : b ≤ l.length + l.length) : swing l a - swing l b < l.length := by
  have red : ∀ c, c ≤ l.length + l.length → ∃ d, d ≤ l.length ∧ swing l c = swing l d := fun c hc => by
    by_cases h : c ≤ l.length
    · exact ⟨c, h, rfl⟩
    · refine ⟨c - l.length, by omega, ?_⟩
      have := swing_round l (j := c - l.length) (by omega)
      rw [show l.length + (c - l.length) = c by omega] at this
      exact this
  obtain ⟨d, hd, e⟩ := red a ha
  obtain ⟨g, hg, f⟩ := red b hb
  rw [e, f]
  exact hf d g hd hg
/-- .. its stretches have strokes times width over places, rounded down or up -/
theorem flat_in {l : List Int} (hf : Flat l) (hn : 0 < l.length) {w a : Nat} (h : a + w ≤ l.length + l.length) :
    l.sum * w / l.length ≤ cnt l w a ∧ cnt l w a ≤ (l.sum * w + l.length - 1) / l.length := by
  have h1 := flat_any hf (a := a + w) (b := a) h (by omega)
  have h2 := flat_any hf (a := a) (b := a + w) (by omega) h
  have e := cnt_swing l w a
  have n0 : (0 : Int) < l.length := by omega
  have ec : (cnt l w a + 1) * (l.length : Int) = (l.length : Int) * cnt l w a + l.length := by rw [Int.add_mul, Int.one_mul, Int.mul_comm]
  have ec2 : cnt l w a * (l.length : Int) = (l.length : Int) * cnt l w a := Int.mul_comm _ _
  constructor
  · have := (Int.ediv_lt_iff_lt_mul n0 (a := l.sum * w) (b := cnt l w a + 1)).mpr (by omega)
    omega
  · exact (Int.le_ediv_iff_mul_le n0).mpr (by omega)
theorem flat_bal {l : List Int} (hf : Flat l) {w : Nat} (hw : w ≤ l.length) : Bal l w := fun a b ha hb => by
  have n0 : (0 : Int) < l.length := by omega
  have a1 := flat_any hf (a := a + w) (b := a) (by omega) (by omega)
  have b1 := flat_any hf (a := b) (b := b + w) (by omega) (by omega)
  have ea := cnt_swing l w a
  have eb := cnt_swing l w b
  by_cases c : cnt l w a - cnt l w b ≤ 1
  · exact c
  · exfalso
    have := Int.mul_le_mul_of_nonneg_left (show cnt l w b + 2 ≤ cnt l w a by omega) (show (0 : Int) ≤ l.length by omega)
    rw [Int.mul_add] at this
    omega
/-! balanced rows are flat -/
def total : Nat → (Nat → Int) → Int
  | 0, _ => 0
  | n + 1, g => total n g + g n
theorem total_shift (n : Nat) (g : Nat → Int) : total n (fun a => g (a + 1)) = total n g + g n - g 0 := by
  induction n with
  | zero => show (0 : Int) = 0 + g 0 - g 0; omega
  | succ n ih =>
    show total n (fun a => g (a + 1)) + g (n + 1) = total n g + g n + g (n + 1) - g 0
    rw [ih]
    omega
theorem total_sub (n : Nat) (g h : Nat → Int) : total n (fun a => g a - h a) = total n g - total n h := by
  induction n with
  | zero => rfl
  | succ n ih =>
    show total n (fun a => g a - h a) + (g n - h n) = total n g + g n - (total n h + h n)
    rw [ih]
    omega
theorem total_heads (l : List Int) : ∀ w : Nat, w ≤ l.length → total l.length (fun a => pre (l ++ l) (a + w)) = total l.length (pre (l ++ l)) + w * l.sum
  | 0, _ => by
    rw [Int.natCast_zero, Int.zero_mul, Int.add_zero]
    rfl
  | w + 1, h => by
    have ih := total_heads l w (by omega)
    have s := total_shift l.length (fun a => pre (l ++ l) (a + w))
    have e : (fun a => pre (l ++ l) (a + (w + 1))) = fun a => (fun a => pre (l ++ l) (a + w)) (a + 1) := funext fun a => by
      show _ = pre (l ++ l) (a + 1 + w)
      rw [show a + 1 + w = a + (w + 1) by omega]
    rw [e, s, ih]
    show _ + pre (l ++ l) (l.length + w) - pre (l ++ l) (0 + w) = _
    rw [twice_round l (by omega), Nat.zero_add, Int.natCast_add, Int.natCast_one, Int.add_mul, Int.one_mul]
    omega
theorem total_cnt (l : List Int) {w : Nat} (h : w ≤ l.length) : total l.length (cnt l w) = w * l.sum := by
  have e : cnt l w = fun a => (fun a => pre (l ++ l) (a + w)) a - pre (l ++ l) a := rfl
  rw [e, total_sub, total_heads l w h]
  omega
theorem total_le (n : Nat) (g : Nat → Int) (M : Int) (h : ∀ a, a < n → g a ≤ M) : total n g ≤ n * M := by
  induction n with
  | zero => rw [Int.natCast_zero, Int.zero_mul]; exact Int.le_refl _
  | succ n ih =>
    have := ih fun a ha => h a (by omega)
    have := h n (by omega)
    rw [Int.natCast_add, Int.natCast_one, Int.add_mul, Int.one_mul]
    show total n g + g n ≤ _
    omega
theorem total_lt (n : Nat) (g : Nat → Int) (M : Int) (h : ∀ a, a < n → g a ≤ M) (b : Nat) (hb : b < n) (k : g b < M) : total n g < n * M := by
  induction n with
  | zero => omega
  | succ n ih =>
    rw [Int.natCast_add, Int.natCast_one, Int.add_mul, Int.one_mul]
    show total n g + g n < _
    by_cases c : b = n
    · rw [c] at k
      have := total_le n g M fun a ha => h a (by omega)
      omega
    · have := ih (fun a ha => h a (by omega)) (by omega)
      have := h n (by omega)
      omega
theorem bal_flat {l : List Int} (hn : 0 < l.length) (hb : ∀ w, w ≤ l.length → Bal l w) : Flat l := by
  have key : ∀ a w, a < l.length → w ≤ l.length → ¬ (l.length : Int) * cnt l w a - l.sum * w ≤ -(l.length : Int) := fun a w ha hw z => by
    have t := total_lt l.length (cnt l w) (cnt l w a + 1) (fun c hc => by have := hb w hw c a hc ha; omega) a ha (by omega)
    rw [total_cnt l hw, Int.mul_add, Int.mul_one, Int.mul_comm (w : Int)] at t
    omega
  have red : ∀ c, c ≤ l.length → ∃ d, d < l.length ∧ swing l c = swing l d := fun c hc => by
    by_cases h : c < l.length
    · exact ⟨c, h, rfl⟩
    · refine ⟨0, hn, ?_⟩
      rw [show c = l.length by omega, swing_all]
  intro a b ha hb'
  obtain ⟨d, hd, e⟩ := red a ha
  obtain ⟨g, hg, f⟩ := red b hb'
  rw [e, f]
  by_cases c : swing l d - swing l g < l.length
  · exact c
  · exfalso
    by_cases o : d ≤ g
    · have := cnt_swing l (g - d) d
      rw [show d + (g - d) = g by omega] at this
      exact key d (g - d) hd (by omega) (by omega)
    · have := cnt_swing l (l.length + g - d) d
      rw [show d + (l.length + g - d) = l.length + g by omega, swing_round l (by omega)] at this
      exact key d (l.length + g - d) hd (by omega) (by omega)
/-- what a stretch leaves over -/
theorem cnt_rest (l : List Int) {w a : Nat} (hw : w ≤ l.length) (ha : a < l.length) : ∃ c, c < l.length ∧ cnt l (l.length - w) a = l.sum - cnt l w c := by
  unfold cnt
  by_cases h : a < w
  · refine ⟨a + (l.length - w), by omega, ?_⟩
    rw [show a + (l.length - w) + w = l.length + a by omega, twice_round l (by omega)]
    omega
  · refine ⟨a - w, by omega, ?_⟩
    have := twice_round l (j := a - w) (by omega)
    rw [show l.length + (a - w) = a + (l.length - w) by omega] at this
    rw [this, show a - w + w = a by omega]
    omega
theorem bal_rest {l : List Int} {w : Nat} (hw : w ≤ l.length) (h : Bal l w) : Bal l (l.length - w) := fun a b ha hb => by
  obtain ⟨c, hc, e⟩ := cnt_rest l hw ha
  obtain ⟨d, hd, f⟩ := cnt_rest l hw hb
  have := h d c hd hc
  omega
theorem bal_zero (l : List Int) : Bal l 0 := fun a b _ _ => by
  rw [cnt_zero, cnt_zero]
  decide
theorem cnt_succ {l : List Int} (hb : Bits l) {w a : Nat} (h : a + w < l.length + l.length) : cnt l (w + 1) a = cnt l w a ∨ cnt l (w + 1) a = cnt l w a + 1 := by
  unfold cnt
  have := pre_step (bits_twice hb) (k := a + w) (by rw [List.length_append]; exact h)
  rw [show a + (w + 1) = a + w + 1 from rfl]
  omega
theorem bal_one {l : List Int} (hb : Bits l) : Bal l 1 := fun a b ha hb' => by
  have e1 := cnt_succ hb (w := 0) (a := a) (by omega)
  have e2 := cnt_succ hb (w := 0) (a := b) (by omega)
  rw [cnt_zero] at e1 e2
  show cnt l (0 + 1) a - cnt l (0 + 1) b ≤ 1
  omega
theorem bal_all {l : List Int} (hb : Bits l) (h : ∀ w, 2 ≤ w → w ≤ l.length / 2 → Bal l w) : ∀ w, w ≤ l.length → Bal l w := by
  have half : ∀ w, w ≤ l.length / 2 → Bal l w := fun w hw => by
    by_cases c : 2 ≤ w
    · exact h w c hw
    · rcases (show w = 0 ∨ w = 1 by omega) with e | e
      · rw [e]
        exact bal_zero l
      · rw [e]
        exact bal_one hb
  intro w hw
  by_cases c : w ≤ l.length / 2
  · exact half w c
  · by_cases c1 : l.length - w ≤ l.length / 2
    · have := bal_rest (w := l.length - w) (by omega) (half _ c1)
      rw [show l.length - (l.length - w) = w by omega] at this
      exact this
    · omega
/-! a flat row, read from a place on, is the laid row -/
def roll (l : List Int) (t : Nat) : List Int := l.drop t ++ l.take t
theorem roll_len {l : List Int} {t : Nat} (h : t ≤ l.length) : (roll l t).length = l.length := by
  unfold roll
  rw [List.length_append, List.length_drop, List.length_take]
  omega
theorem roll_is {l : List Int} {t : Nat} (h : t ≤ l.length) : roll l t = ((l ++ l).drop t).take l.length := by
  unfold roll
  rw [List.drop_append_of_le_length h, List.take_append, List.length_drop, List.take_of_length_le (l := l.drop t) (by rw [List.length_drop]; omega), show l.length - (l.length - t) = t by omega]
theorem roll_at {l : List Int} {t i : Nat} (h : t ≤ l.length) (hi : i < l.length) : (roll l t)[i]? = (l ++ l)[t + i]? := by
  rw [roll_is h, List.getElem?_take_of_lt hi, List.getElem?_drop]
theorem pre_roll {l : List Int} {t k : Nat} (h : t ≤ l.length) (hk : k ≤ l.length) : pre (roll l t) k = pre (l ++ l) (t + k) - pre (l ++ l) t := by
  rw [roll_is h, pre_take hk, pre_add]
  omega
theorem top_of (g : Nat → Int) : ∀ n : Nat, 0 < n → ∃ t, t < n ∧ ∀ a, a < n → g a ≤ g t
  | 0, h => absurd h (Nat.lt_irrefl 0)
  | 1, _ => ⟨0, by decide, fun a ha => by rw [show a = 0 by omega]; exact Int.le_refl _⟩
  | n + 2, _ => by
    obtain ⟨t, ht, q⟩ := top_of g (n + 1) (by omega)
    by_cases c : g t ≤ g (n + 1)
    · refine ⟨n + 1, by omega, fun a ha => ?_⟩
      by_cases e : a = n + 1
      · rw [e]
        exact Int.le_refl _
      · exact Int.le_trans (q a (by omega)) c
    · refine ⟨t, by omega, fun a ha => ?_⟩
      by_cases e : a = n + 1
      · rw [e]
        omega
      · exact q a (by omega)
theorem ext_pre {l m : List Int} (hl : l.length = m.length) (h : ∀ k, k ≤ l.length → pre l k = pre m k) : l = m := by
  refine List.ext_getElem hl fun i h1 h2 => ?_
  have e1 := h i (by omega)
  have e2 := h (i + 1) (by omega)
  rw [pre_succ (List.getElem?_eq_getElem h1), pre_succ (List.getElem?_eq_getElem h2), e1] at e2
  omega
theorem flat_rolls {l : List Int} (hn : 0 < l.length) (hf : Flat l) : ∃ t, t < l.length ∧ ∀ k, k ≤ l.length → pre (roll l t) k = l.sum * k / l.length := by
  obtain ⟨t, ht, q⟩ := top_of (swing l) l.length hn
  refine ⟨t, ht, fun k hk => ?_⟩
  have n0 : (0 : Int) < l.length := by omega
  have h1 := flat_any hf (a := t) (b := t + k) (by omega) (by omega)
  have h2 : swing l (t + k) ≤ swing l t := by
    by_cases c : t + k < l.length
    · exact q _ c
    · have := swing_round l (j := t + k - l.length) (by omega)
      rw [show l.length + (t + k - l.length) = t + k by omega] at this
      rw [this]
      by_cases c2 : t + k - l.length < l.length
      · exact q _ c2
      · omega
  have e := cnt_swing l k t
  rw [pre_roll (by omega) hk]
  show cnt l k t = _
  have ec : (cnt l k t + 1) * (l.length : Int) = (l.length : Int) * cnt l k t + l.length := by rw [Int.add_mul, Int.one_mul, Int.mul_comm]
  have ec2 : cnt l k t * (l.length : Int) = (l.length : Int) * cnt l k t := Int.mul_comm _ _
  have u1 := (Int.ediv_lt_iff_lt_mul n0 (a := l.sum * k) (b := cnt l k t + 1)).mpr (by omega)
  have u2 : cnt l k t ≤ l.sum * k / l.length := (Int.le_ediv_iff_mul_le n0).mpr (by omega)
  omega
section
variable {P : Program} {w : World} {K : PySem.W.Frag} {mg : Str → Option Value} {base : Heap}
/-! ### the program -/
def Wheel (s p : Int) : Prop := ¬ p < 1 ∧ ¬ s < 0 ∧ ¬ s > p
def sp_look (C : Addr) : Sp := fun vs H Q E => ∃ (s p : Int), vs = [.int s, .int p] ∧ (¬ Wheel s p → E (.ref C) none H) ∧ (Wheel s p → Q .non H)
theorem ok_look_at_wheel (T : Txt K mg) : FnOk P w K mg base (L2.CX P w) 1 T.f_look_at_wheel T.fd_look_at_wheel ["strokes", "places"] (sp_look T.c_NoWheel) := by
  refine T.F_look_at_wheel.okX sc_look_at_wheel (fun vs H Q E h => ?_) (fun cdv A outer s H vs Q E hr h => ?_)
  · obtain ⟨s, p, rfl, _⟩ := h
    rfl
  · obtain ⟨s, p, rfl, e, q⟩ := h
    refine ⟨_, (pss_one (ps_if (PW.pt (pw_or (pt_cmpR op_lt (pv 1) pe_int (nomark _)) (pw_or (pt_cmpR op_lt (pv 0) pe_int (nomark _)) (pw_or1 (pt_cmpR op_gt (pv 0) (pv 1) (nomark _))))))
      (pss_one (ps_raise rfl (takes_of rfl rfl rfl rfl) (pmk_own PySem.F.excBase_ValueError T.x_NoWheel T.gc_NoWheel T.kc_NoWheel (raises_own T.sub_NoWheel T.ty_NoWheel) rfl)))
      pss_nil)), ?_⟩
    repeat walk_at "rd"
    refine rd_split (fun c => ?_) fun c => ?_
    · exact e fun z => z.1 c
    repeat walk_at "rd"
    refine rd_split (fun c1 => ?_) fun c1 => ?_
    · exact e fun z => z.2.1 c1
    repeat walk_at "rd"
    refine rd_split (fun c2 => ?_) fun c2 => ?_
    · exact e fun z => z.2.2 c2
    exact q ⟨c, c1, c2⟩
def sp_ahead (C : Addr) : Sp := fun vs H Q E => ∃ (s p a : Int), vs = [.int s, .int p, .int a] ∧ (¬ Wheel s p → E (.ref C) none H) ∧ (Wheel s p → p.natAbs < 2 ^ 210 ∧ a.natAbs < 2 ^ 450 ∧ Q (.int (s * a / p)) H)
theorem ok_ahead (T : Txt K mg) : FnOk P w K mg base (L2.CX P w) 2 T.f_ahead T.fd_ahead ["strokes", "places", "at"] (sp_ahead T.c_NoWheel) := by
  refine T.F_ahead.okX sc_ahead (fun vs H Q E h => ?_) (fun cdv A outer s H vs Q E hr h => ?_)
  · obtain ⟨s, p, a, rfl, _⟩ := h
    rfl
  · obtain ⟨s, p, a, rfl, e, q⟩ := h
    refine ⟨_, (pss_cons (ps_expr (pe_callS (ok_look_at_wheel T) hr (by rfl) T.g_look_at_wheel T.k_look_at_wheel T.b_look_at_wheel (fun σ => passAt (takes_of rfl rfl rfl rfl) σ) (pa_cons (pv 0) (pa_cons (pv 1) pa_nil))))
    (pss_one (ps_ret (pe_op op_fdivW (pe_op op_mulW (pv 0) (pv 2)) (pv 1))))), ?_⟩
    repeat walk_at "rd"
    refine ⟨s, p, rfl, e, fun hw => ?_⟩
    obtain ⟨bp, ba, q⟩ := q hw
    repeat walk_at "rd"
    have bs : s.natAbs < 2 ^ 210 := wide_le (by have := hw.2.1; omega) (show s ≤ p by have := hw.2.2; omega) bp
    refine rd_I (wide_mul bs ba (by decide) (by decide) (by decide)) ?_
    repeat walk_at "rd"
    exact rd_I (wide_div (by have := hw.1; omega) bp (by decide) (by decide)) q
def sp_has (C : Addr) : Sp := fun vs H Q E => ∃ (s p a : Int), vs = [.int s, .int p, .int a] ∧ (¬ Wheel s p → E (.ref C) none H) ∧ (Wheel s p → p.natAbs < 2 ^ 210 ∧ a.natAbs < 2 ^ 440 ∧ Q (.bl (decide (s * a / p < s * (a + 1) / p))) H)
theorem ok_has_stroke (T : Txt K mg) : FnOk P w K mg base (L2.CX P w) 3 T.f_has_stroke T.fd_has_stroke ["strokes", "places", "at"] (sp_has T.c_NoWheel) := by
  refine T.F_has_stroke.okX sc_has_stroke (fun vs H Q E h => ?_) (fun cdv A outer s H vs Q E hr h => ?_)
  · obtain ⟨s, p, a, rfl, _⟩ := h
    rfl
  · obtain ⟨s, p, a, rfl, e, q⟩ := h
    refine ⟨_, (pss_one (ps_ret (pe_cmpR op_lt (pe_callS (ok_ahead T) hr (by rfl) T.g_ahead T.k_ahead T.b_ahead (fun σ => passAt (takes_of rfl rfl rfl rfl) σ) (pa_cons (pv 0) (pa_cons (pv 1) (pa_cons (pv 2) pa_nil)))) (pe_callS (ok_ahead T) hr (by rfl) T.g_ahead T.k_ahead T.b_ahead (fun σ => passAt (takes_of rfl rfl rfl rfl) σ) (pa_cons (pv 0) (pa_cons (pv 1) (pa_cons (pe_op op_add (pv 2) pe_int) pa_nil)))) (nomark _)))), ?_⟩
    repeat walk_at "rd"
    refine ⟨s, p, a, rfl, e, fun hw => ?_⟩
    obtain ⟨bp, ba, q⟩ := q hw
    have b1 : a.natAbs < 2 ^ 450 := Nat.lt_trans ba (Nat.pow_lt_pow_right (by decide) (by decide))
    have b2 : (a + 1).natAbs < 2 ^ 450 := Nat.lt_of_lt_of_le (one_more ba) (Nat.pow_le_pow_right (by decide) (by decide))
    refine ⟨bp, b1, ?_⟩
    repeat walk_at "rd"
    refine ⟨s, p, a + 1, rfl, e, fun _ => ⟨bp, b2, ?_⟩⟩
    repeat walk_at "rd"
    exact q
def sp_look_row (C : Addr) : Sp := fun vs H Q E => ∃ (s p : Int), vs = [.int s, .int p] ∧ (¬ (Wheel s p ∧ p ≤ 120) → E (.ref C) none H) ∧ (Wheel s p → p ≤ 120 → Q .non H)
theorem ok_look_at_row (T : Txt K mg) : FnOk P w K mg base (L2.CX P w) 2 T.f_look_at_row T.fd_look_at_row ["strokes", "places"] (sp_look_row T.c_NoWheel) := by
  refine T.F_look_at_row.okX sc_look_at_row (fun vs H Q E h => ?_) (fun cdv A outer s H vs Q E hr h => ?_)
  · obtain ⟨s, p, rfl, _⟩ := h
    rfl
  · obtain ⟨s, p, rfl, e, q⟩ := h
    refine ⟨_, (pss_cons (ps_expr (pe_callS (ok_look_at_wheel T) hr (by rfl) T.g_look_at_wheel T.k_look_at_wheel T.b_look_at_wheel (fun σ => passAt (takes_of rfl rfl rfl rfl) σ) (pa_cons (pv 0) (pa_cons (pv 1) pa_nil))))
    (pss_one (ps_if (pt_cmpR op_gt (pv 1) (pe_glob (v := .int 120) (by rfl) T.gv_LONGEST ⟨_, rfl⟩) (nomark _))
      (pss_one (ps_raise rfl (takes_of rfl rfl rfl rfl) (pmk_own PySem.F.excBase_ValueError T.x_NoWheel T.gc_NoWheel T.kc_NoWheel (raises_own T.sub_NoWheel T.ty_NoWheel) rfl)))
      pss_nil))), ?_⟩
    repeat walk_at "rd"
    refine ⟨s, p, rfl, fun z => e fun y => z y.1, fun hw => ?_⟩
    repeat walk_at "rd"
    refine rd_split (fun c => ?_) fun c => ?_
    · exact e fun z => by
        have := z.2
        omega
    · exact q hw (by omega)
/-! the laid row -/
def bitAt (s p : Int) (i : Nat) : Int := if s * i / p < s * (i + 1) / p then 1 else 0
def laidRow (s p : Int) : List Int := (List.range p.toNat).map (bitAt s p)
theorem laid_len (s p : Int) : (laidRow s p).length = p.toNat := by
  unfold laidRow
  rw [List.length_map, List.length_range]
theorem laid_at {s p : Int} {i : Nat} (h : i < p.toNat) : (laidRow s p)[i]? = some (bitAt s p i) := by
  unfold laidRow
  rw [List.getElem?_map, List.getElem?_range h]
  rfl
theorem bit_is {s p : Int} (hw : Wheel s p) (i : Nat) : bitAt s p i = s * (i + 1) / p - s * i / p := by
  obtain ⟨h1, h2⟩ := one_on (s := s) (p := p) (a := (i : Int)) (by have := hw.1; omega) (by have := hw.2.1; omega) (by have := hw.2.2; omega)
  unfold bitAt
  split <;> omega
theorem bit_01 (s p : Int) (i : Nat) : bitAt s p i = 0 ∨ bitAt s p i = 1 := by
  unfold bitAt
  split
  · exact .inr rfl
  · exact .inl rfl
def sp_laid (C : Addr) : Sp := fun vs H Q E => ∃ (s p : Int), vs = [.int s, .int p] ∧ (¬ (Wheel s p ∧ p ≤ 120) → E (.ref C) none H) ∧
  (Wheel s p → p ≤ 120 → ∀ H' r, Same H H' → H r = none → H' r = some (.lst ((laidRow s p).map V.int)) → Q (.ref r) H')
theorem ok_laid (T : Txt K mg) : FnOk P w K mg base (L2.CX P w) 4 T.f_laid T.fd_laid ["strokes", "places"] (sp_laid T.c_NoWheel) := by
  refine T.F_laid.okX sc_laid (fun vs H Q E h => ?_) (fun cdv A outer s H vs Q E hr h => ?_)
  · obtain ⟨s, p, rfl, _⟩ := h
    rfl
  · obtain ⟨s, p, rfl, e, q⟩ := h
    refine ⟨_, (pss_cons (ps_expr (pe_callS (ok_look_at_row T) (hr.mono (by decide)) (by rfl) T.g_look_at_row T.k_look_at_row T.b_look_at_row (fun σ => passAt (takes_of rfl rfl rfl rfl) σ) (pa_cons (pv 0) (pa_cons (pv 1) pa_nil))))
    (pss_one (ps_ret (pe_lc (own := [("at", 2)]) (g := gName 2) (tt := tYes) rfl sc_laid.nd (pi_range1 (by rfl) T.m_range (pa_cons (pv 1) pa_nil)) (blkOk_by (N := N_laid) (sc := defScope s_laid) (by decide +kernel)) (fun _ _ _ _ _ => pg_name (i := 2) sc_laid.nd rfl (Or.inl rfl)) (fun _ _ _ _ _ => pts_nil) (fun _ _ _ _ _ => (pe_callTy call_intB (by rfl) T.m_int (by decide +kernel) (pa_cons (pe_call (ok_has_stroke T) hr (by rfl) T.g_has_stroke T.k_has_stroke T.b_has_stroke .nil passL (pa_cons (pv 0) (pa_cons (pv 1) (pa_cons (pv 2) pa_nil)))) pa_nil))))))), ?_⟩
    repeat walk_at "rd"
    refine ⟨s, p, rfl, e, fun hw hp => ?_⟩
    have p1 : 1 ≤ p := by have := hw.1; omega
    repeat walk_at "rd"
    refine ⟨p, rfl, by omega, by omega, fun D nD => lc_range (lo := 0) (n := p.toNat) (fun i H' => Same H H' ∧ H' D = some (.lst (((laidRow s p).take i).map V.int))) ⟨same_new nD, upd_same⟩ ?_ ?_⟩
    · rintro i H' hi ⟨sm, eD⟩
      refine ⟨rfl, ?_⟩
      repeat walk_at "rd"
      refine ⟨s, p, _, rfl, fun z => absurd hw z, fun _ => ⟨wider (n := 7) (show p.natAbs < 128 by omega) (by decide), wider (n := 7) (show (0 + (i : Int)).natAbs < 128 by omega) (by decide), ?_⟩⟩
      repeat walk_at "rd"
      refine ⟨_, eD, small1000 (by rw [List.length_map, List.length_take, laid_len]; omega), same_put sm nD, ?_⟩
      rw [upd_same, List.take_add_one, laid_at hi, List.map_append]
      refine congrArg (fun z => some (HO.lst (_ ++ [V.int z]))) ?_
      unfold bitAt
      rw [Int.zero_add]
      by_cases c : s * (i : Int) / p < s * ((i : Int) + 1) / p
      · rw [decide_eq_true c, if_pos c]
        rfl
      · rw [decide_eq_false c, if_neg c]
        rfl
    · rintro H' ⟨sm, eD⟩
      refine q hw hp H' D sm nD ?_
      rw [eD, List.take_of_length_le (by rw [laid_len]; omega)]
/-- the sums of twice the laid row -/
theorem laid_pre {s p : Int} (hw : Wheel s p) : ∀ k : Nat, k ≤ p.toNat + p.toNat → pre (laidRow s p ++ laidRow s p) k = s * k / p
  | 0, _ => by
    rw [pre_zero, Int.natCast_zero, Int.mul_zero, Int.zero_ediv]
  | k + 1, h => by
    have p0 : 0 < p := by have := hw.1; omega
    have ih := laid_pre hw k (by omega)
    have hat : (laidRow s p ++ laidRow s p)[k]? = some (bitAt s p (k % p.toNat)) := by
      rw [twice_at (by rw [laid_len]; omega), laid_len, laid_at (Nat.mod_lt _ (by omega))]
    rw [pre_succ hat, ih, bit_is hw]
    have hp : (p.toNat : Int) = p := Int.toNat_of_nonneg (by omega)
    by_cases c : k < p.toNat
    · rw [Nat.mod_eq_of_lt c, Int.natCast_add]
      show s * (k : Int) / p + (s * ((k : Int) + 1) / p - s * (k : Int) / p) = s * ((k : Int) + 1) / p
      omega
    · have e : k % p.toNat = k - p.toNat := by rw [Nat.mod_eq_sub_mod (by omega), Nat.mod_eq_of_lt (by omega)]
      have e2 : ((k - p.toNat : Nat) : Int) = (k : Int) - p := by omega
      rw [e, e2, Int.natCast_add]
      have r1 := round_on (s := s) (a := (k : Int) - p) (p := p) (by omega)
      have r2 := round_on (s := s) (a := (k : Int) - p + 1) (p := p) (by omega)
      rw [show (k : Int) - p + p = k by omega] at r1
      rw [show (k : Int) - p + 1 + p = k + 1 by omega] at r2
      show s * (k : Int) / p + (s * ((k : Int) - p + 1) / p - s * ((k : Int) - p) / p) = s * ((k : Int) + 1) / p
      omega
/-- rounded up -/
theorem ceil_is {y p : Int} (hp : 0 < p) : (y % p = 0 → (y + p - 1) / p = y / p) ∧ (y % p ≠ 0 → (y + p - 1) / p = y / p + 1) := by
  have e := Int.mul_ediv_add_emod y p
  have h0 := Int.emod_nonneg y (show p ≠ 0 by omega)
  have h1 := Int.emod_lt_of_pos y hp
  have e1 : y / p * p = p * (y / p) := Int.mul_comm _ _
  have e2 : (y / p + 1) * p = p * (y / p) + p := by rw [Int.add_mul, Int.one_mul, e1]
  have e3 : (y / p + 1 + 1) * p = p * (y / p) + p + p := by rw [Int.add_mul, e2, Int.one_mul]
  exact ⟨fun z => floor_is hp (by omega) (by omega), fun z => floor_is hp (by omega) (by omega)⟩
/-- a stretch of sums has strokes times width over places, rounded down or up -/
theorem stretch_in {s p a w : Int} (hp : 0 < p) : s * w / p ≤ s * (a + w) / p - s * a / p ∧ s * (a + w) / p - s * a / p ≤ (s * w + p - 1) / p := by
  obtain ⟨f1, f2, f3⟩ := floor_add (x := s * a) (y := s * w) hp
  rw [← Int.mul_add] at f1 f2 f3
  obtain ⟨c1, c2⟩ := ceil_is (y := s * w) hp
  by_cases z : s * w % p = 0
  · have := c1 z
    have := f3 z
    omega
  · have := c2 z
    omega
def nth (l : List Int) (i : Nat) : Int := l.getD i 0
theorem nth_at {l : List Int} {i : Nat} (h : i < l.length) : l[i]? = some (nth l i) := by
  unfold nth
  rw [List.getD_eq_getElem?_getD, List.getElem?_eq_getElem h]
  rfl
theorem nth_mem {l : List Int} {i : Nat} (h : i < l.length) : nth l i ∈ l := List.mem_of_getElem? (nth_at h)
theorem nth_int {l : List Int} {i : Int} (h0 : 0 ≤ i) (h1 : i < l.length) : atI (l.map V.int) i = some (.int (nth l i.toNat)) := at_of (j := i.toNat) (by omega) (int_at (nth_at (by omega)))
theorem bits_nth {l : List Int} (hb : Bits l) {i : Nat} (h : i < l.length) : nth l i = 0 ∨ nth l i = 1 := hb _ (nth_mem h)
theorem bits_set {l : List Int} (hb : Bits l) {i : Nat} {z : Int} (hz : z = 0 ∨ z = 1) : Bits (l.set i z) := fun x hx => by
  rcases List.mem_or_eq_of_mem_set hx with m | m
  · exact hb x m
  · rw [m]
    exact hz
/-- a comprehension that makes bits -/
def LcBits (H : Hp) (D : Addr) (i : Nat) (H' : Hp) : Prop := Same H H' ∧ ∃ ms : List Int, ms.length = i ∧ H' D = some (.lst (ms.map V.int)) ∧ Bits ms
theorem lcb_zero {H : Hp} {D : Addr} (nD : H D = none) : LcBits H D 0 (upd H D (.lst [])) := ⟨same_new nD, [], rfl, upd_same, fun _ z => nomatch z⟩
theorem lcb_more {H H' : Hp} {D : Addr} {i : Nat} {z : Int} (nD : H D = none) (h : LcBits H D i H') (hz : z = 0 ∨ z = 1) (hi : i < 999) : ∃ acc, H' D = some (.lst acc) ∧ acc.length < sizeLine ∧ LcBits H D (i + 1) (upd H' D (.lst (acc ++ [.int z]))) := by
  obtain ⟨sm, ms, lm, e, hb⟩ := h
  refine ⟨_, e, small1000 (by rw [List.length_map]; omega), same_put sm nD, ms ++ [z], by rw [List.length_append, lm]; rfl, by rw [upd_same, List.map_append]; rfl, fun x hx => ?_⟩
  rcases List.mem_append.mp hx with m | m
  · exact hb x m
  · rw [List.mem_singleton.mp m]
    exact hz
def cntsOf (ns : List Int) (w : Nat) : List Int := (List.range ns.length).map (cnt ns w)
theorem cnts_len (ns : List Int) (w : Nat) : (cntsOf ns w).length = ns.length := by
  unfold cntsOf
  rw [List.length_map, List.length_range]
def sp_counts : Sp := fun vs H Q _ => ∃ (r : Addr) (ns : List Int) (w : Nat), vs = [.ref r, .int w] ∧ H r = some (.lst (ns.map V.int)) ∧ w ≤ ns.length ∧ ns.length ≤ 120 ∧ ∀ H' d, Same H H' → H d = none → H' d = some (.lst ((cntsOf ns w).map V.int)) → Q (.ref d) H'
theorem ok_counts (T : Txt K mg) : FnOk P w K mg base CX0 1 T.f_counts T.fd_counts ["row", "width"] sp_counts := by
  refine T.F_counts.ok sc_counts (fun vs H Q E h => ?_) (fun cdv A outer s H vs Q E hr h => ?_)
  · obtain ⟨r, ns, w, rfl, _⟩ := h
    rfl
  · obtain ⟨r, ns, w, rfl, er, hw, hl, q⟩ := h
    refine ⟨_, (pss_cons (ps_set (i := 2) sc_counts.nd rfl (Or.inl rfl) (pe_callB (cr_sum rfl) (by rfl) T.m_sum (by decide +kernel) (pa_cons (pe_slice sl_list (pv 0) po_none (po_some (pv 1))) pa_nil)))
    (pss_cons (ps_set (i := 3) sc_counts.nd rfl (Or.inl rfl) (pe_lst pa_nil))
    (pss_cons (ps_for PassesOwn.never rfl (pi_range1 (by rfl) T.m_range (pa_cons (pe_callB call_lenL (by rfl) T.m_len PySem.boot_len (pa_cons (pv 0) pa_nil)) pa_nil)) (pg_name (i := 4) sc_counts.nd rfl (Or.inl rfl))
      (pss_cons (ps_expr (pe_bm PySem.F.plainAttrs_list PySem.F.slot_list_append PySem.F.type_list_append mt_append (pv 3) (pa_cons (pv 2) pa_nil)))
      (pss_one (ps_aug (i := 2) sc_counts.nd rfl (Or.inl rfl) (pe_op op_sub (pe_ix ix_list (pv 0) (pe_op op_mod (pe_op op_add (pv 4) (pv 1)) (pe_callB call_lenL (by rfl) T.m_len PySem.boot_len (pa_cons (pv 0) pa_nil))) (fun _ _ => rfl)) (pe_ix ix_list (pv 0) (pv 4) (fun _ _ => rfl))) ip_add))))
    (pss_one (ps_ret (pv 3)))))), ?_⟩
    repeat walk_at "rd"
    refine rd_slL (SqL.of er) fun c nc => ?_
    rw [cut_to]
    have er1 := same_new (o := .lst ((ns.take w).map V.int)) nc _ _ er
    have s1 := same_new (o := .lst ((ns.take w).map V.int)) nc
    have ec : upd H c (.lst ((ns.take w).map V.int)) c = some (.lst ((ns.take w).map V.int)) := upd_same
    generalize upd H c (.lst ((ns.take w).map V.int)) = H1 at er1 s1 ec ⊢
    repeat walk_at "rd"
    refine rd_sum (SqL.of ec) ?_
    have e0 : (ns.take w).sum = cnt ns w 0 := by
      show pre ns w = pre (ns ++ ns) (0 + w) - pre (ns ++ ns) 0
      rw [Nat.zero_add, pre_zero, pre_app_le hw]
      omega
    rw [e0]
    repeat walk_at "rd"
    refine ⟨Nat.zero_le _, fun d nd => ?_⟩
    have ndH : H d = none := s1.free nd
    have er2 := same_new (o := .lst []) nd _ _ er1
    have s2 := same_to (o := .lst []) s1 nd
    have hS : SqL K (upd H1 d (.lst [])) r (ns.map V.int) := SqL.of er2
    have ed : upd H1 d (.lst []) d = some (.lst []) := upd_same
    generalize upd H1 d (.lst []) = H2 at s2 hS ed ⊢
    repeat walk_at "rd"
    refine ⟨(ns.length : Int), by rw [List.length_map], by omega, by omega, ?_⟩
    rw [Int.toNat_natCast]
    refine for_range (lo := 0) (n := ns.length) (fun i σ H' => (∃ x4, σ = [some (.ref r), some (.int w), some (.int (cnt ns w i)), some (.ref d), x4]) ∧ Same H H' ∧ H' d = some (.lst (((List.range i).map (cnt ns w)).map V.int))) ⟨⟨_, rfl⟩, s2, ed⟩ ?_ ?_
    · rintro i σ H' hi ⟨⟨x4, rfl⟩, sm, ed⟩
      repeat walk_at "rd"
      refine rd_tyL ed ?_
      repeat walk_at "rd"
      refine rd_app ed (by rw [tab_len]; omega) ?_
      have sm2 := same_put (o := .lst (((List.range i).map (cnt ns w)).map V.int ++ [.int (cnt ns w i)])) sm ndH
      have ed2 : upd H' d (.lst (((List.range i).map (cnt ns w)).map V.int ++ [.int (cnt ns w i)])) d = some (.lst (((List.range (i + 1)).map (cnt ns w)).map V.int)) := by
        rw [upd_same, tab_succ]
      generalize upd H' d (.lst (((List.range i).map (cnt ns w)).map V.int ++ [.int (cnt ns w i)])) = H3 at sm2 ed2 ⊢
      have hS3 : SqL K H3 r (ns.map V.int) := SqL.of (sm2 _ _ er)
      have hm : (i + w) % ns.length < ns.length := Nat.mod_lt _ (by omega)
      repeat walk_at "rd"
      refine rd_I (C := fun _ j => 0 < j) (by rw [List.length_map]; omega) ?_
      repeat walk_at "rd"
      refine rd_ixL hS3 (at_of (j := (i + w) % ns.length) (v := .int ns[(i + w) % ns.length]) (by rw [List.length_map, Int.zero_add, Int.natCast_emod, Int.natCast_add]) (int_at (List.getElem?_eq_getElem hm))) ?_
      repeat walk_at "rd"
      refine rd_ixL hS3 (at_of (j := i) (v := .int ns[i]) (by rw [Int.zero_add]) (int_at (List.getElem?_eq_getElem hi))) ?_
      repeat walk_at "rd"
      refine ⟨⟨some (V.int (0 + (i : Int))), ?_⟩, sm2, ed2⟩
      have e : cnt ns w i + (ns[(i + w) % ns.length] - ns[i]) = cnt ns w (i + 1) := by
        have t1 : (ns ++ ns)[i + w]? = some ns[(i + w) % ns.length] := by rw [twice_at (by omega), List.getElem?_eq_getElem hm]
        have t2 : (ns ++ ns)[i]? = some ns[i] := by rw [List.getElem?_append_left hi, List.getElem?_eq_getElem hi]
        unfold cnt
        rw [show i + 1 + w = i + w + 1 by omega, pre_succ t1, pre_succ t2]
        omega
      show _ = ([_, _, some (V.int (cnt ns w (i + 1))), _, _] : L2.St)
      rw [← e]
      rfl
    · rintro σ H' ⟨⟨x4, rfl⟩, sm, ed⟩
      repeat walk_at "rd"
      exact q H' d sm ndH ed
def sp_turned : Sp := fun vs H Q _ => ∃ (r : Addr) (ns : List Int) (b : Int), vs = [.ref r, .int b] ∧ H r = some (.lst (ns.map V.int)) ∧ 1 ≤ ns.length ∧ ns.length ≤ 120 ∧ ∀ H' d, Same H H' → H d = none → H' d = some (.lst ((roll ns (b % ns.length).toNat).map V.int)) → Q (.ref d) H'
theorem ok_turned (T : Txt K mg) : FnOk P w K mg base CX0 1 T.f_turned T.fd_turned ["row", "by"] sp_turned := by
  refine T.F_turned.ok sc_turned (fun vs H Q E h => ?_) (fun cdv A outer s H vs Q E hr h => ?_)
  · obtain ⟨r, ns, b, rfl, _⟩ := h
    rfl
  · obtain ⟨r, ns, b, rfl, er, hn, hl, q⟩ := h
    refine ⟨_, (pss_cons (ps_set (i := 2) sc_turned.nd rfl (Or.inl rfl) (pe_op op_mod (pv 1) (pe_callB call_lenL (by rfl) T.m_len PySem.boot_len (pa_cons (pv 0) pa_nil))))
    (pss_one (ps_ret (pe_op op_cat (pe_slice sl_list (pv 0) (po_some (pv 2)) po_none) (pe_slice sl_list (pv 0) po_none (po_some (pv 2))))))), ?_⟩
    have hS : SqL K H r (ns.map V.int) := SqL.of er
    repeat walk_at "rd"
    refine rd_I (C := fun _ j => 0 < j) (by rw [List.length_map]; omega) ?_
    have h0 := Int.emod_nonneg b (show (ns.length : Int) ≠ 0 by omega)
    have h1 := Int.emod_lt_of_pos b (show (0 : Int) < ns.length by omega)
    obtain ⟨t, ht⟩ : ∃ t : Nat, b % (ns.length : Int) = t := ⟨_, (Int.toNat_of_nonneg h0).symm⟩
    rw [List.length_map, ht]
    rw [ht, Int.toNat_natCast] at q
    repeat walk_at "rd"
    refine rd_slL hS fun c nc => ?_
    rw [cut_from]
    have s1 := same_new (o := .lst ((ns.drop t).map V.int)) nc
    have ec : upd H c (.lst ((ns.drop t).map V.int)) c = some (.lst ((ns.drop t).map V.int)) := upd_same
    generalize upd H c (.lst ((ns.drop t).map V.int)) = H1 at s1 ec ⊢
    repeat walk_at "rd"
    refine rd_slL (s1.seq hS) fun e ne => ?_
    rw [cut_to]
    have s2 := same_to (o := .lst ((ns.take t).map V.int)) s1 ne
    have ec2 := same_new (o := .lst ((ns.take t).map V.int)) ne _ _ ec
    have ee : upd H1 e (.lst ((ns.take t).map V.int)) e = some (.lst ((ns.take t).map V.int)) := upd_same
    generalize upd H1 e (.lst ((ns.take t).map V.int)) = H2 at s2 ec2 ee ⊢
    refine rd_cat ec2 ee (by rw [List.length_map, List.length_map, List.length_drop, List.length_take]; omega) fun d nd => ?_
    refine q _ d (same_to s2 nd) (s2.free nd) ?_
    rw [upd_same, ← List.map_append]
    rfl
/-! faults -/
def NoFault (bs : List Int) : Prop := ∀ w, 2 ≤ w → w ≤ bs.length / 2 → Bal bs w
def IsFault (bs : List Int) (w m l : Nat) : Prop := 2 ≤ w ∧ w ≤ bs.length / 2 ∧ (∀ v, 2 ≤ v → v < w → Bal bs v) ∧ ∃ mx mn : Int, mx ∈ cntsOf bs w ∧ (∀ y ∈ cntsOf bs w, y ≤ mx) ∧ mn ∈ cntsOf bs w ∧ (∀ y ∈ cntsOf bs w, mn ≤ y) ∧ mx - mn > 1 ∧ m = (cntsOf bs w).idxOf mx ∧ l = (cntsOf bs w).idxOf mn
theorem cnts_mem {bs : List Int} {w : Nat} {y : Int} : y ∈ cntsOf bs w ↔ ∃ a, a < bs.length ∧ y = cnt bs w a := by
  unfold cntsOf
  rw [List.mem_map]
  constructor
  · rintro ⟨a, h, e⟩
    exact ⟨a, List.mem_range.mp h, e.symm⟩
  · rintro ⟨a, h, e⟩
    exact ⟨a, List.mem_range.mpr h, e.symm⟩
theorem bal_of {bs : List Int} {w : Nat} {mx mn : Int} (h1 : ∀ y ∈ cntsOf bs w, y ≤ mx) (h2 : ∀ y ∈ cntsOf bs w, mn ≤ y) (h : mx - mn ≤ 1) : Bal bs w := fun a b ha hb => by
  have := h1 _ (cnts_mem.mpr ⟨a, ha, rfl⟩)
  have := h2 _ (cnts_mem.mpr ⟨b, hb, rfl⟩)
  omega
theorem bal_le {bs : List Int} {w : Nat} {mx mn : Int} (hb : Bal bs w) (h1 : mx ∈ cntsOf bs w) (h2 : mn ∈ cntsOf bs w) : mx - mn ≤ 1 := by
  obtain ⟨a, ha, rfl⟩ := cnts_mem.mp h1
  obtain ⟨b, hb', rfl⟩ := cnts_mem.mp h2
  exact hb a b ha hb'
theorem no_not {bs : List Int} {w m l : Nat} (h : NoFault bs) (f : IsFault bs w m l) : False := by
  obtain ⟨w2, wl, _, mx, mn, h1, _, h2, _, d, _⟩ := f
  have := bal_le (h w w2 wl) h1 h2
  omega
theorem fault_one {bs : List Int} {w m l w' m' l' : Nat} (f : IsFault bs w m l) (g : IsFault bs w' m' l') : w = w' ∧ m = m' ∧ l = l' := by
  obtain ⟨w2, wl, lt, mx, mn, h1, h1', h2, h2', d, em, el⟩ := f
  obtain ⟨w2', wl', lt', mx', mn', k1, k1', k2, k2', d', em', el'⟩ := g
  have e : w = w' := by
    by_cases c : w < w'
    · have := bal_le (lt' w w2 c) h1 h2
      omega
    · by_cases c' : w' < w
      · have := bal_le (lt w' w2' c') k1 k2
        omega
      · omega
  subst e
  have a1 := h1' _ k1
  have a2 := k1' _ h1
  have b1 := h2' _ k2
  have b2 := k2' _ h2
  have emx : mx = mx' := by omega
  have emn : mn = mn' := by omega
  subst emx emn
  exact ⟨rfl, by rw [em, em'], by rw [el, el']⟩
theorem bits_sum {l : List Int} (h : Bits l) : 0 ≤ l.sum ∧ l.sum ≤ l.length := by
  induction l with
  | nil => exact ⟨by decide, by decide⟩
  | cons x t ih =>
    have := ih fun y hy => h y (List.mem_cons_of_mem _ hy)
    rw [List.sum_cons, List.length_cons]
    rcases h x List.mem_cons_self with e | e <;> rw [e] <;> omega
theorem bits_wheel {l : List Int} (h : Bits l) (hn : 1 ≤ l.length) : Wheel l.sum l.length := by
  have := bits_sum h
  exact ⟨by omega, by omega, by omega⟩
theorem laid_pre1 {s p : Int} (hw : Wheel s p) {k : Nat} (h : k ≤ p.toNat) : pre (laidRow s p) k = s * k / p := by
  rw [← laid_pre hw k (by omega), pre_app_le (by rw [laid_len]; exact h)]
theorem flat_start {l : List Int} (hb : Bits l) (hn : 1 ≤ l.length) (hf : Flat l) : ∃ t, t < l.length ∧ roll l t = laidRow l.sum l.length := by
  obtain ⟨t, ht, q⟩ := flat_rolls (by omega) hf
  refine ⟨t, ht, ext_pre (by rw [roll_len (by omega), laid_len]; omega) fun k hk => ?_⟩
  rw [roll_len (by omega)] at hk
  rw [q k hk, laid_pre1 (bits_wheel hb hn) (by omega)]
theorem no_start {l : List Int} (hb : Bits l) (hn : 1 ≤ l.length) (hf : NoFault l) : ∃ t, t < l.length ∧ roll l t = laidRow l.sum l.length :=
  flat_start hb hn (bal_flat (by omega) (bal_all hb hf))
theorem flat_no {l : List Int} (hf : Flat l) : NoFault l := fun w _ hw => flat_bal hf (by omega)
theorem fault_two {bs : List Int} (hb : Bits bs) {w m l : Nat} (f : IsFault bs w m l) {mx mn : Int} (h1 : mx ∈ cntsOf bs w) (h1' : ∀ y ∈ cntsOf bs w, y ≤ mx) (h2 : mn ∈ cntsOf bs w) (h2' : ∀ y ∈ cntsOf bs w, mn ≤ y) : mx - mn = 2 := by
  obtain ⟨w2, wl, lt, mx', mn', k1, k1', k2, k2', d', _⟩ := f
  have a1 := h1' _ k1
  have b1 := h2' _ k2
  have bw : Bal bs (w - 1) := by
    by_cases c : 2 ≤ w - 1
    · exact lt _ c (by omega)
    · rw [show w - 1 = 1 by omega]
      exact bal_one hb
  obtain ⟨a, ha, e1⟩ := cnts_mem.mp h1
  obtain ⟨b, hb', e2⟩ := cnts_mem.mp h2
  have c1 := cnt_succ hb (w := w - 1) (a := a) (by omega)
  have c2 := cnt_succ hb (w := w - 1) (a := b) (by omega)
  rw [show w - 1 + 1 = w by omega] at c1 c2
  have := bw a b ha hb'
  omega
def sp_fault : Sp := fun vs H Q _ => ∃ (r : Addr) (bs : List Int), vs = [.ref r] ∧ H r = some (.lst (bs.map V.int)) ∧ bs.length ≤ 120 ∧ (NoFault bs → ∀ H', Same H H' → Q .non H') ∧
  ∀ w m l : Nat, IsFault bs w m l → ∀ H' t, Same H H' → H' t = some (.tup [.int w, .int m, .int l]) → Q (.ref t) H'
theorem ok_fault (T : Txt K mg) : FnOk P w K mg base CX0 2 T.f_fault T.fd_fault ["row"] sp_fault := by
  refine T.F_fault.ok sc_fault (fun vs H Q E h => ?_) (fun cdv A outer s H vs Q E hr h => ?_)
  · obtain ⟨r, bs, rfl, _⟩ := h
    rfl
  · obtain ⟨r, bs, rfl, er, hl, q0, q1⟩ := h
    refine ⟨_, (pss_cons (ps_for PassesOwn.never rfl (pi_range2 (by rfl) T.m_range (pa_cons pe_int (pa_cons (pe_op op_add (pe_op op_fdiv (pe_callB call_lenL (by rfl) T.m_len PySem.boot_len (pa_cons (pv 0) pa_nil)) pe_int) pe_int) pa_nil))) (pg_name (i := 1) sc_fault.nd rfl (Or.inl rfl))
      (pss_cons (ps_set (i := 2) sc_fault.nd rfl (Or.inl rfl) (pe_call (ok_counts T) hr (by rfl) T.g_counts T.k_counts T.b_counts .nil pass0 (pa_cons (pv 0) (pa_cons (pv 1) pa_nil))))
      (pss_one (ps_if (pt_cmpR op_gt (pe_op op_sub (pe_callB (cr_max rfl) (by rfl) T.m_max (by decide +kernel) (pa_cons (pv 2) pa_nil)) (pe_callB (cr_min rfl) (by rfl) T.m_min (by decide +kernel) (pa_cons (pv 2) pa_nil))) pe_int (nomark _))
        (pss_one (ps_ret (pe_tup (pa_cons (pv 1) (pa_cons (pe_bm PySem.F.plainAttrs_list PySem.F.slot_list_index PySem.F.type_list_index mt_index (pv 2) (pa_cons (pe_callB (cr_max rfl) (by rfl) T.m_max (by decide +kernel) (pa_cons (pv 2) pa_nil)) pa_nil)) (pa_cons (pe_bm PySem.F.plainAttrs_list PySem.F.slot_list_index PySem.F.type_list_index mt_index (pv 2) (pa_cons (pe_callB (cr_min rfl) (by rfl) T.m_min (by decide +kernel) (pa_cons (pv 2) pa_nil)) pa_nil)) pa_nil))))))
        pss_nil))))
    (pss_one (ps_ret pe_non))), ?_⟩
    have hS : SqL K H r (bs.map V.int) := SqL.of er
    repeat walk_at "rd"
    rw [List.length_map]
    refine ⟨2, (bs.length : Int) / 2 + 1, rfl, ⟨by omega, by omega, by omega, by omega⟩, ?_⟩
    rw [show ((bs.length : Int) / 2 + 1 - 2).toNat = bs.length / 2 - 1 by omega]
    refine for_range (lo := 2) (n := bs.length / 2 - 1) (fun i σ H' => (∃ x1 x2, σ = [some (.ref r), x1, x2]) ∧ Same H H' ∧ ∀ v, 2 ≤ v → v < i + 2 → Bal bs v) ⟨⟨_, _, rfl⟩, Same.refl H, fun v a b => absurd b (by omega)⟩ ?_ ?_
    · rintro i σ H' hi ⟨⟨x1, x2, rfl⟩, sm, hb⟩
      repeat walk_at "rd"
      refine ⟨r, bs, i + 2, by rw [show (2 : Int) + (i : Int) = ((i + 2 : Nat) : Int) by omega]; rfl, sm _ _ er, by omega, hl, fun H2 d s2 nd ed => ?_⟩
      have hSd : SqL K H2 d ((cntsOf bs (i + 2)).map V.int) := SqL.of ed
      have c0 : 0 < (cntsOf bs (i + 2)).length := by rw [cnts_len]; omega
      repeat walk_at "rd"
      refine rd_max hSd c0 fun mx m1 m2 => ?_
      repeat walk_at "rd"
      refine rd_minL hSd c0 fun mn k1 k2 => ?_
      repeat walk_at "rd"
      refine rd_split (fun c => ?_) fun c => ?_
      · repeat walk_at "rd"
        refine rd_tyL ed ?_
        repeat walk_at "rd"
        refine rd_max hSd c0 fun mx' m1' m2' => ?_
        repeat walk_at "rd"
        refine rd_index hSd m1' ?_
        repeat walk_at "rd"
        refine rd_tyL ed ?_
        repeat walk_at "rd"
        refine rd_minL hSd c0 fun mn' k1' k2' => ?_
        repeat walk_at "rd"
        refine rd_index hSd k1' ?_
        repeat walk_at "rd"
        refine ⟨by show 3 ≤ sizeLine; decide, fun t nt => ?_⟩
        refine q1 (i + 2) _ _ ⟨by omega, by omega, fun v a b => hb v a (by omega), mx', mn', m1', m2', k1', k2', ?_, rfl, rfl⟩ _ t (same_to (sm.trans s2) nt) ?_
        · have := m2' _ m1
          have := k2' _ k1
          omega
        · rw [upd_same, show (2 : Int) + (i : Int) = ((i + 2 : Nat) : Int) by omega]
      · repeat walk_at "rd"
        refine ⟨⟨_, _, rfl⟩, sm.trans s2, fun v a b => ?_⟩
        by_cases e : v = i + 2
        · rw [e]
          exact bal_of m2 k2 (by omega)
        · exact hb v a (by omega)
    · rintro σ H' ⟨⟨x1, x2, rfl⟩, sm, hb⟩
      repeat walk_at "rd"
      exact q0 (fun w a b => hb w a (by omega)) H' sm
theorem ok_init_Uneven (T : Txt K mg) : FnOk P w K mg base CX0 1 T.f_init_Uneven T.fd_init_Uneven N_init_Uneven (sp_uinit T.c_Uneven) := by
  refine T.F_init_Uneven.ok sc_init_Uneven (fun vs H Q E h => ?_) (fun cdv A outer s H vs Q E hr h => ?_)
  · obtain ⟨a, x, m, l, rfl, _⟩ := h
    rfl
  · obtain ⟨a, x, m, l, rfl, ea, q⟩ := h
    refine ⟨_, (pss_cons (ps_ost (pv 0) (pv 1)) (pss_cons (ps_ost (pv 0) (pv 2)) (pss_one (ps_ost (pv 0) (pv 3))))), ?_⟩
    repeat walk_at "rd"
    unfold tOst
    repeat walk_at "rd"
    refine ⟨a, _, rfl, T.ox_Uneven, T.no_Uneven_width, .inl ⟨ea, fun d nd da => ?_⟩⟩
    repeat walk_at "rd"
    repeat walk_at "rd"
    refine ⟨a, _, rfl, T.ox_Uneven, T.no_Uneven_most, .inr ⟨d, _, upd_same, (upd_ne da).trans upd_same, by show 1 ≤ 900; decide, ?_⟩⟩
    repeat walk_at "rd"
    dsimp only
    repeat walk_at "rd"
    refine ⟨a, _, rfl, T.ox_Uneven, T.no_Uneven_least, .inr ⟨d, _, (upd_ne (Ne.symm da)).trans upd_same, upd_same, by show 2 ≤ 900; decide, ?_⟩⟩
    refine q _ d nd da ((upd_ne (Ne.symm da)).trans ((upd_ne (Ne.symm da)).trans upd_same)) upd_same fun b o hb e => ?_
    have hd : b ≠ d := ne_of_none e nd
    rw [upd_ne hd, upd_ne hd, upd_ne hb, upd_ne hd]
    exact e
def sp_start (C : Addr) : Sp := fun vs H Q E => ∃ (r : Addr) (bs : List Int), vs = [.ref r] ∧ H r = some (.lst (bs.map V.int)) ∧ Bits bs ∧ 1 ≤ bs.length ∧ bs.length ≤ 120 ∧
  (NoFault bs → ∀ (t : Nat) H', Same H H' → t < bs.length → roll bs t = laidRow bs.sum bs.length → (∀ u, u < t → roll bs u ≠ laidRow bs.sum bs.length) → Q (.int t) H') ∧
  ∀ w m l : Nat, IsFault bs w m l → ∀ H' d, Same H H' → H' d = some (.xd (ufs (.int w) (.int m) (.int l))) → E (.ref C) (some d) H'
theorem ok_start (T : Txt K mg) : FnOk P w K mg base (L2.CX P w) 5 T.f_start T.fd_start ["row"] (sp_start T.c_Uneven) := by
  refine T.F_start.okX sc_start (fun vs H Q E h => ?_) (fun cdv A outer s H vs Q E hr h => ?_)
  · obtain ⟨r, bs, rfl, _⟩ := h
    rfl
  · obtain ⟨r, bs, rfl, er, hb, hn, hl, q, qe⟩ := h
    refine ⟨_, (pss_cons (ps_set (i := 1) sc_start.nd rfl (Or.inl rfl) (pe_call (ok_fault T) (hr.mono (by decide)) (by rfl) T.g_fault T.k_fault T.b_fault .nil pass0 (pa_cons (pv 0) pa_nil)))
    (pss_cons (ps_if (pt_cmpR opNotN (pv 1) pe_non (nomark _))
      (pss_one (ps_raiseM rfl (takes_of rfl rfl rfl rfl) (pmk_oex T.ox_Uneven T.iC_Uneven T.tI_Uneven (ok_init_Uneven T) (hr.mono (by decide)) T.b_init_Uneven .nil pass0 (by rfl) T.gc_Uneven (pa_cons (pe_ix ix_tup (pv 1) pe_int (fun _ _ => rfl)) (pa_cons (pe_ix ix_tup (pv 1) pe_int (fun _ _ => rfl)) (pa_cons (pe_ix ix_tup (pv 1) pe_int (fun _ _ => rfl)) pa_nil))))))
      pss_nil)
    (pss_cons (ps_set (i := 2) sc_start.nd rfl (Or.inl rfl) (pe_callS (ok_laid T) hr (by rfl) T.g_laid T.k_laid T.b_laid (fun σ => passAt (takes_of rfl rfl rfl rfl) σ) (pa_cons (pe_callB (cr_sum rfl) (by rfl) T.m_sum (by decide +kernel) (pa_cons (pv 0) pa_nil)) (pa_cons (pe_callB call_lenL (by rfl) T.m_len PySem.boot_len (pa_cons (pv 0) pa_nil)) pa_nil))))
    (pss_cons (ps_for (passes_of rfl) rfl (pi_range1 (by rfl) T.m_range (pa_cons (pe_callB call_lenL (by rfl) T.m_len PySem.boot_len (pa_cons (pv 0) pa_nil)) pa_nil)) (pg_name (i := 3) sc_start.nd rfl (Or.inl rfl))
      (pss_one (ps_if (pt_cmpR (op_eqD hr.units) (pe_call (ok_turned T) (hr.mono (by decide)) (by rfl) T.g_turned T.k_turned T.b_turned .nil pass0 (pa_cons (pv 0) (pa_cons (pv 3) pa_nil))) (pv 2) (nomark _))
        (pss_one (ps_ret (pv 3)))
        pss_nil)))
    (pss_one (ps_ret pe_int)))))), ?_⟩
    have hS : SqL K H r (bs.map V.int) := SqL.of er
    repeat walk_at "rd"
    refine ⟨r, bs, rfl, er, hl, fun nf H1 s1 => ?_, fun w m l hf H1 t s1 et => ?_⟩
    · have hS1 := s1.seq hS
      have bw := bits_wheel hb hn
      repeat walk_at "rd"
      refine rd_sum hS1 ?_
      repeat walk_at "rd"
      rw [List.length_map]
      refine ⟨bs.sum, bs.length, rfl, fun z => absurd ⟨bw, by omega⟩ z, fun _ _ H2 d s2 nd ed => ?_⟩
      have s02 := s1.trans s2
      have hS2 := s02.seq hS
      repeat walk_at "rd"
      rw [List.length_map]
      refine ⟨(bs.length : Int), rfl, by omega, by omega, ?_⟩
      rw [Int.toNat_natCast]
      obtain ⟨t0, ht0, et0⟩ := no_start hb hn nf
      refine for_range (lo := 0) (n := bs.length) (fun i σ H' => (∃ x3, σ = [some (.ref r), some .non, some (.ref d), x3]) ∧ Same H2 H' ∧ ∀ u, u < i → roll bs u ≠ laidRow bs.sum bs.length) ⟨⟨_, rfl⟩, Same.refl H2, fun u hu => absurd hu (by omega)⟩ ?_ ?_
      · rintro i σ H' hi ⟨⟨x3, rfl⟩, sm, no⟩
        repeat walk_at "rd"
        refine ⟨r, bs, _, rfl, sm _ _ (s02 _ _ er), hn, hl, fun H3 e s3 ne ee => ?_⟩
        rw [show ((0 + (i : Int)) % (bs.length : Int)).toNat = i by rw [Int.zero_add, Int.emod_eq_of_lt (by omega) (by omega)]; omega] at ee
        repeat walk_at "rd"
        refine rd_eqL (SqL.of ee) (SqL.of (s3 _ _ (sm _ _ ed))) ?_
        repeat walk_at "rd"
        refine rd_split (fun c => ?_) fun c => ?_
        · repeat walk_at "rd"
          rw [Int.zero_add]
          exact q nf i H3 (s02.trans (sm.trans s3)) hi c no
        · repeat walk_at "rd"
          refine ⟨⟨_, rfl⟩, sm.trans s3, fun u hu => ?_⟩
          by_cases e : u = i
          · rw [e]
            exact c
          · exact no u (by omega)
      · rintro σ H' ⟨⟨x3, rfl⟩, sm, no⟩
        exact absurd et0 (no t0 ht0)
    · have u0 : ∀ (x y z : V), atI [x, y, z] 0 = some x := fun x y z => atI_nat (j := 0) rfl
      have u1 : ∀ (x y z : V), atI [x, y, z] 1 = some y := fun x y z => atI_nat (j := 1) rfl
      have u2 : ∀ (x y z : V), atI [x, y, z] 2 = some z := fun x y z => atI_nat (j := 2) rfl
      repeat walk_at "rd"
      refine rd_raiseM (rd_mkO ?_)
      repeat walk_at "rd"
      refine rd_ixT (SqT.of et) (u0 _ _ _) ?_
      repeat walk_at "rd"
      refine rd_ixT (SqT.of et) (u1 _ _ _) ?_
      repeat walk_at "rd"
      refine rd_ixT (SqT.of et) (u2 _ _ _) ?_
      repeat walk_at "rd"
      exact mk_uneven fun H3 d s3 nd ed => qe w m l hf H3 d (s1.trans s3) ed
def cell (ns : List Int) (k : Nat) : Int := ns.getD k 0
def sp_cell_at (K : PySem.W.Frag) : Sp := fun vs H Q _ => ∃ (a : Addr) (ns : List Int) (k : Nat), vs = [.ref a, .int k] ∧ SqL K H a (ns.map V.int) ∧ Q (.int (cell ns k)) H
theorem ok_cell_at (T : Txt K mg) : FnOk P w K mg base CX0 1 T.f_cell_at T.fd_cell_at ["_law_script", "_law_k"] (sp_cell_at K) := by
  refine T.F_cell_at.ok sc_cell_at (fun vs H Q E h => ?_) (fun cdv A outer s H vs Q E hr h => ?_)
  · obtain ⟨a, ns, k, rfl, _⟩ := h
    rfl
  · obtain ⟨a, ns, k, rfl, hS, q⟩ := h
    refine ⟨_, (pss_cons (ps_if (pt_cmpR op_lt (pv 1) (pe_callB call_lenL (by rfl) T.m_len PySem.boot_len (pa_cons (pv 0) pa_nil)) (nomark _))
      (pss_one (ps_ret (pe_ix ix_list (pv 0) (pv 1) (fun _ _ => rfl))))
      pss_nil)
    (pss_one (ps_ret pe_int))), ?_⟩
    repeat walk_at "rd"
    rw [List.length_map]
    refine rd_split (fun c => ?_) fun c => ?_
    · have hk : k < ns.length := by omega
      repeat walk_at "rd"
      refine rd_ixL hS (atI_nat (j := k) (by rw [List.getElem?_map, List.getElem?_eq_getElem hk]; rfl)) ?_
      have e : cell ns k = ns[k] := by
        unfold cell
        rw [List.getD_eq_getElem?_getD, List.getElem?_eq_getElem hk]
        rfl
      rw [e] at q
      exact q
    · have hk : ns.length ≤ k := by omega
      have e : cell ns k = 0 := by
        unfold cell
        rw [List.getD_eq_getElem?_getD, List.getElem?_eq_none hk]
        rfl
      rw [e] at q
      repeat walk_at "rd"
      exact q
def sp_whole : Sp := fun vs H Q _ => ∃ (i : Int), vs = [.int i] ∧ Q (.bl true) H
theorem ok_whole (T : Txt K mg) : FnOk P w K mg base CX0 1 T.f_whole T.fd_whole ["_law_found"] sp_whole := by
  refine T.F_whole.ok sc_whole (fun vs H Q E h => ?_) (fun cdv A outer s H vs Q E hr h => ?_)
  · obtain ⟨i, rfl, _⟩ := h
    rfl
  · obtain ⟨i, rfl, q⟩ := h
    refine ⟨_, (pss_one (ps_ret (pe_and (pe_callB call_isi (by rfl) T.m_isinstance (by decide +kernel) (pa_cons (pv 0) (pa_cons (pe_bltn (v := .ty "int") (by rfl) T.m_int (by decide +kernel) rfl) pa_nil))) (pe_one (pe_not (pe_callB call_isi (by rfl) T.m_isinstance (by decide +kernel) (pa_cons (pv 0) (pa_cons (pe_bltn (v := .ty "bool") (by rfl) T.m_bool (by decide +kernel) rfl) pa_nil)))))))), ?_⟩
    repeat walk_at "rd"
    exact q
/-- two lists of the same ints -/
def sp_alike : Sp := fun vs H Q _ => ∃ (f d : Addr) (ns : List Int), vs = [.ref f, .ref d] ∧ H f = some (.lst (ns.map V.int)) ∧ H d = some (.lst (ns.map V.int)) ∧ ∀ H', Same H H' → Q (.bl true) H'
theorem ok_alike (T : Txt K mg) : FnOk P w K mg base CX0 2 T.f_alike T.fd_alike ["_law_found", "_law_due"] sp_alike := by
  refine T.F_alike.ok sc_alike (fun vs H Q E h => ?_) (fun cdv A outer s H vs Q E hr h => ?_)
  · obtain ⟨f, d, ns, rfl, _⟩ := h
    rfl
  · obtain ⟨f, d, ns, rfl, ef, ed, q⟩ := h
    refine ⟨_, (pss_cons (ps_if (PW.pt (pw_or (pt_not (pt_val (pe_callB call_isi (by rfl) T.m_isinstance (by decide +kernel) (pa_cons (pv 0) (pa_cons (pe_bltn (v := .ty "list") (by rfl) T.m_list (by decide +kernel) rfl) pa_nil))))) (pw_or1 (pt_cmpR op_ne (pe_callB call_lenL (by rfl) T.m_len PySem.boot_len (pa_cons (pv 0) pa_nil)) (pe_callB call_lenL (by rfl) T.m_len PySem.boot_len (pa_cons (pv 1) pa_nil)) (nomark _)))))
      (pss_one (ps_ret pe_bl))
      pss_nil)
    (pss_cons (ps_for PassesOwn.never rfl (pi_zip (by rfl) T.m_zip (pa_cons (pv 0) (pa_cons (pv 1) pa_nil))) (pg_tup rfl (pgs_cons (pg_name (i := 2) sc_alike.nd rfl (Or.inl rfl)) (pgs_cons (pg_name (i := 3) sc_alike.nd rfl (Or.inl rfl)) pgs_nil)))
      (pss_one (ps_if (PW.pt (pw_or (pt_not (pt_val (pe_call (ok_whole T) hr (by rfl) T.g_whole T.k_whole T.b_whole .nil pass0 (pa_cons (pv 2) pa_nil)))) (pw_or1 (pt_cmpR op_ne (pv 2) (pv 3) (nomark _)))))
        (pss_one (ps_ret pe_bl))
        pss_nil)))
    (pss_one (ps_ret pe_bl)))), ?_⟩
    have hf : SqL K H f (ns.map V.int) := SqL.of ef
    have hd : SqL K H d (ns.map V.int) := SqL.of ed
    repeat walk_at "rd"
    refine rd_splitN (fun c => absurd rfl c) fun _ => ?_
    repeat walk_at "rd"
    refine ⟨f, d, _, _, rfl, hf, hd, RZ.for_zipL (xs := ns.map V.int) (ys := ns.map V.int) rfl (fun i σ H' => (∃ x2 x3, σ = [some (.ref f), some (.ref d), x2, x3]) ∧ Same H H') ⟨⟨_, _, rfl⟩, Same.refl H⟩ (fun i σ H' h' => ⟨h'.2.seq hf, h'.2.seq hd⟩) ?_ ?_⟩
    · rintro i x y t σ H' hx hy ⟨⟨x2, x3, rfl⟩, sm⟩ nt
      rw [hx] at hy
      cases hy
      obtain ⟨z, hz, rfl⟩ : ∃ z, z ∈ ns ∧ x = V.int z := by
        obtain ⟨z, m, e⟩ := List.mem_map.mp (List.mem_of_getElem? hx)
        exact ⟨z, m, e.symm⟩
      have st := same_to (o := .tup [.int z, .int z]) sm nt
      have et : upd H' t (.tup [.int z, .int z]) t = some (.tup [.int z, .int z]) := upd_same
      generalize upd H' t (.tup [.int z, .int z]) = H2 at st et ⊢
      repeat walk_at "rd"
      refine ⟨z, rfl, ?_⟩
      repeat walk_at "rd"
      refine rd_splitN (fun c => absurd rfl c) fun _ => ?_
      repeat walk_at "rd"
      exact ⟨⟨_, _, rfl⟩, st⟩
    · rintro σ H' ⟨⟨x2, x3, rfl⟩, sm⟩
      repeat walk_at "rd"
      exact q H' sm
def sp_sums : Sp := fun vs H Q _ => ∃ (s p : Int), vs = [.int s, .int p] ∧ Wheel s p ∧ p ≤ 120 ∧ ∀ H' d, Same H H' → H d = none → H' d = some (.lst ((laidRow s p).map V.int)) → Q (.ref d) H'
theorem ok_sums_row (T : Txt K mg) : FnOk P w K mg base CX0 1 T.f_sums_row T.fd_sums_row ["_law_strokes", "_law_places"] sp_sums := by
  refine T.F_sums_row.ok sc_sums_row (fun vs H Q E h => ?_) (fun cdv A outer s H vs Q E hr h => ?_)
  · obtain ⟨s, p, rfl, _⟩ := h
    rfl
  · obtain ⟨s, p, rfl, hw, hp, q⟩ := h
    refine ⟨_, (pss_one (ps_ret (pe_lc (own := [("_law_at", 2)]) (g := gName 2) (tt := tYes) rfl sc_sums_row.nd (pi_range1 (by rfl) T.m_range (pa_cons (pv 1) pa_nil)) (blkOk_by (N := N_sums_row) (sc := defScope s_sums_row) (by decide +kernel)) (fun _ _ _ _ _ => pg_name (i := 2) sc_sums_row.nd rfl (Or.inl rfl)) (fun _ _ _ _ _ => pts_nil) (fun _ _ _ _ _ => (pe_op op_sub (pe_op op_fdiv (pe_op op_mul (pv 0) (pe_op op_add (pv 2) pe_int)) (pv 1)) (pe_op op_fdiv (pe_op op_mul (pv 0) (pv 2)) (pv 1))))))), ?_⟩
    have p1 : 1 ≤ p := by have := hw.1; omega
    have s0 : 0 ≤ s := by have := hw.2.1; omega
    have sp : s ≤ p := by have := hw.2.2; omega
    repeat walk_at "rd"
    refine ⟨p, rfl, by omega, by omega, fun D nD => lc_range (lo := 0) (n := p.toNat) (fun i H' => Same H H' ∧ H' D = some (.lst (((laidRow s p).take i).map V.int))) ⟨same_new nD, upd_same⟩ ?_ ?_⟩
    · rintro i H' hi ⟨sm, eD⟩
      refine ⟨rfl, ?_⟩
      repeat walk_at "rd"
      refine rd_I (C := CDiv) ⟨by omega, by omega⟩ ?_
      repeat walk_at "rd"
      refine rd_I (C := CDiv) ⟨by omega, by omega⟩ ?_
      repeat walk_at "rd"
      refine ⟨_, eD, small1000 (by rw [List.length_map, List.length_take, laid_len]; omega), same_put sm nD, ?_⟩
      rw [upd_same, List.take_add_one, laid_at hi, List.map_append, bit_is hw, Int.zero_add]
      rfl
    · rintro H' ⟨sm, eD⟩
      refine q H' D sm nD ?_
      rw [eD, List.take_of_length_le (by rw [laid_len]; omega)]
def sp_changed (K : PySem.W.Frag) : Sp := fun vs H Q _ => ∃ (H0 : Hp) (r a : Addr) (bs ns : List Int), vs = [.ref r, .ref a] ∧ Same H0 H ∧ H0 r = none ∧ SqL K H0 a (ns.map V.int) ∧ ns.length ≤ 63 ∧ H r = some (.lst (bs.map V.int)) ∧ Bits bs ∧ 1 ≤ bs.length ∧ bs.length ≤ 120 ∧
  ∀ H' (cs : List Int), Same H0 H' → H' r = some (.lst (cs.map V.int)) → Bits cs → cs.length = bs.length → Q (.ref r) H'
theorem ok_changed (T : Txt K mg) : FnOk P w K mg base CX0 2 T.f_changed T.fd_changed ["_law_row_here", "_law_script"] (sp_changed K) := by
  refine T.F_changed.ok sc_changed (fun vs H Q E h => ?_) (fun cdv A outer s H vs Q E hr h => ?_)
  · obtain ⟨H0, r, a, bs, ns, rfl, _⟩ := h
    rfl
  · obtain ⟨H0, r, a, bs, ns, rfl, s0, nr, hS0, hlen, er, hb, hn, hl, q⟩ := h
    refine ⟨_, (pss_cons (ps_set (i := 2) sc_changed.nd rfl (Or.inr rfl) (pe_callB call_lenL (by rfl) T.m_len PySem.boot_len (pa_cons (pv 0) pa_nil)))
    (pss_cons (ps_set (i := 3) sc_changed.nd rfl (Or.inl rfl) (pe_ix ix_list (pe_lst (pa_cons pe_int (pa_cons pe_int (pa_cons pe_int (pa_cons pe_int (pa_cons pe_int pa_nil)))))) (pe_op op_mod (pe_op op_fdiv (pe_call (ok_cell_at T) hr (by rfl) T.g_cell_at T.k_cell_at T.b_cell_at .nil pass0 (pa_cons (pv 1) (pa_cons pe_int pa_nil))) pe_int) pe_int) (fun _ _ => rfl)))
    (pss_cons (ps_set (i := 4) sc_changed.nd rfl (Or.inl rfl) (pe_lst pa_nil))
    (pss_cons (ps_if (pt_cmpR op_eq (pv 3) pe_int (nomark _))
      (pss_one (ps_set (i := 4) sc_changed.nd rfl (Or.inl rfl) (pe_lst (pa_cons (pe_op op_mod (pe_call (ok_cell_at T) hr (by rfl) T.g_cell_at T.k_cell_at T.b_cell_at .nil pass0 (pa_cons (pv 1) (pa_cons pe_int pa_nil))) (pv 2)) pa_nil))))
      pss_nil)
    (pss_cons (ps_if (pt_cmpR op_eq (pv 3) pe_int (nomark _))
      (pss_one (ps_setLc (i := 4) (own := [("_law_cell", 8)]) (g := gName 8) (tt := tYes) rfl sc_changed.nd rfl rfl (sw_true rfl rfl rfl (by decide +kernel)) (pi_list (pe_slice sl_list (pv 1) (po_some pe_int) (po_some pe_int))) (blkOk_by (N := N_changed) (sc := defScope s_changed) (by decide +kernel)) (fun _ _ _ _ _ => pg_name (i := 8) sc_changed.nd rfl (Or.inl rfl)) (fun _ _ _ _ _ => pts_nil) (fun _ _ _ _ _ => (pe_op op_mod (pv 8) (pv 2)))))
      pss_nil)
    (pss_cons (ps_for PassesOwn.never rfl (pi_list (pv 4)) (pg_name (i := 5) sc_changed.nd rfl (Or.inl rfl))
      (pss_one (ps_asg (pe_op op_sub pe_int (pe_ix ix_list (pv 0) (pv 5) (fun _ _ => rfl))) (pg_sub (pv 0) (pv 5) set_list))))
    (pss_cons (ps_if (pt_cmpR op_eq (pv 3) pe_int (nomark _))
      (pss_cons (ps_set (i := 5) sc_changed.nd rfl (Or.inl rfl) (pe_op op_mod (pe_call (ok_cell_at T) hr (by rfl) T.g_cell_at T.k_cell_at T.b_cell_at .nil pass0 (pa_cons (pv 1) (pa_cons pe_int pa_nil))) (pv 2)))
      (pss_cons (ps_set (i := 6) sc_changed.nd rfl (Or.inl rfl) (pe_op op_mod (pe_op op_add (pv 5) pe_int) (pv 2)))
      (pss_cons (ps_set (i := 7) sc_changed.nd rfl (Or.inl rfl) (pe_ix ix_list (pv 0) (pv 5) (fun _ _ => rfl)))
      (pss_cons (ps_asg (pe_ix ix_list (pv 0) (pv 6) (fun _ _ => rfl)) (pg_sub (pv 0) (pv 5) set_list))
      (pss_one (ps_asg (pv 7) (pg_sub (pv 0) (pv 6) set_list)))))))
      pss_nil)
    (pss_one (ps_ret (pv 0)))))))))), ?_⟩
    have hSr : SqL K H r (bs.map V.int) := SqL.of er
    refine rd_cut (fun σ H' => σ = [some (.ref r), some (.ref a), some (.int bs.length), none, none, none, none, none, none] ∧ H' = H) (fun U k => ?_) ?_
    · repeat walk_at "rd"
      rw [List.length_map]
      exact k _ _ ⟨rfl, rfl⟩
    rintro σ H1 ⟨rfl, rfl⟩
    refine rd_cut (fun σ H' => ∃ way : Int, σ = [some (.ref r), some (.ref a), some (.int bs.length), some (.int way), none, none, none, none, none] ∧ Same H0 H' ∧ H' r = some (.lst (bs.map V.int))) (fun U k => ?_) ?_
    · repeat walk_at "rd"
      refine ⟨by show 5 ≤ sizeLine; decide, fun c nc => ?_⟩
      have s1 := same_to (o := .lst [.int 0, .int 0, .int 1, .int 2, .int 3]) s0 nc
      have er1 := same_new (o := .lst [.int 0, .int 0, .int 1, .int 2, .int 3]) nc _ _ er
      have ec : upd H1 c (.lst [.int 0, .int 0, .int 1, .int 2, .int 3]) c = some (.lst (([0, 0, 1, 2, 3] : List Int).map V.int)) := upd_same
      generalize upd H1 c (.lst [.int 0, .int 0, .int 1, .int 2, .int 3]) = H2 at s1 er1 ec ⊢
      repeat walk_at "rd"
      refine ⟨a, ns, 4, rfl, s1.seq hS0, ?_⟩
      repeat walk_at "rd"
      have w0 := Int.emod_nonneg (cell ns 4 / 4) (show (5 : Int) ≠ 0 by decide)
      have w1 := Int.emod_lt_of_pos (cell ns 4 / 4) (show (0 : Int) < 5 by decide)
      refine rd_ixL (SqL.of ec) (nth_int (l := [0, 0, 1, 2, 3]) w0 w1) ?_
      repeat walk_at "rd"
      exact k _ _ ⟨_, rfl, s1, er1⟩
    rintro σ H2 ⟨way, rfl, s2, er2⟩
    refine rd_cut (fun σ H' => ∃ (sp : Addr) (ss : List Int), σ = [some (.ref r), some (.ref a), some (.int bs.length), some (.int way), some (.ref sp), none, none, none, none] ∧ Same H0 H' ∧ H' r = some (.lst (bs.map V.int)) ∧ H' sp = some (.lst (ss.map V.int)) ∧ sp ≠ r ∧ ∀ x ∈ ss, 0 ≤ x ∧ x < bs.length) (fun U k => ?_) ?_
    · repeat walk_at "rd"
      refine ⟨Nat.zero_le _, fun c nc => ?_⟩
      repeat walk_at "rd"
      exact k _ _ ⟨c, [], rfl, same_to s2 nc, same_new nc _ _ er2, upd_same, Ne.symm (ne_of_none er2 nc), fun _ z => (nomatch z)⟩
    rintro σ H3 ⟨sp, ss, rfl, s3, er3, es, hsr, hss⟩
    refine rd_cut (fun σ H' => ∃ (sp : Addr) (ss : List Int), σ = [some (.ref r), some (.ref a), some (.int bs.length), some (.int way), some (.ref sp), none, none, none, none] ∧ Same H0 H' ∧ H' r = some (.lst (bs.map V.int)) ∧ H' sp = some (.lst (ss.map V.int)) ∧ sp ≠ r ∧ ∀ x ∈ ss, 0 ≤ x ∧ x < bs.length) (fun U k => ?_) ?_
    · repeat walk_at "rd"
      refine rd_split (fun c => ?_) fun c => ?_
      · repeat walk_at "rd"
        refine ⟨a, ns, 5, rfl, s3.seq hS0, ?_⟩
        repeat walk_at "rd"
        refine ⟨by show 1 ≤ sizeLine; decide, fun c nc => ?_⟩
        repeat walk_at "rd"
        refine k _ _ ⟨c, [cell ns 5 % bs.length], rfl, same_to s3 nc, same_new nc _ _ er3, upd_same, Ne.symm (ne_of_none er3 nc), fun x hx => ?_⟩
        rw [List.mem_singleton.mp hx]
        exact ⟨Int.emod_nonneg _ (by omega), Int.emod_lt_of_pos _ (by omega)⟩
      · repeat walk_at "rd"
        exact k _ _ ⟨sp, ss, rfl, s3, er3, es, hsr, hss⟩
    clear hsr hss es s3 er3
    rintro σ H3 ⟨sp, ss, rfl, s3, er3, es, hsr, hss⟩
    refine rd_cut (fun σ H' => ∃ (sp : Addr) (ss : List Int), σ = [some (.ref r), some (.ref a), some (.int bs.length), some (.int way), some (.ref sp), none, none, none, none] ∧ Same H0 H' ∧ H' r = some (.lst (bs.map V.int)) ∧ H' sp = some (.lst (ss.map V.int)) ∧ sp ≠ r ∧ ∀ x ∈ ss, 0 ≤ x ∧ x < bs.length) (fun U k => ?_) ?_
    · repeat walk_at "rd"
      refine rd_split (fun c => ?_) fun c => ?_
      · repeat walk_at "rd"
        refine rd_slL (s3.seq hS0) fun c nc => ?_
        obtain ⟨ms, em, _, lm⟩ := cut_any ns (some 5) (some 65)
        rw [em]
        have s4 := same_to (o := .lst (ms.map V.int)) s3 nc
        have er4 := same_new (o := .lst (ms.map V.int)) nc _ _ er3
        have ec : upd H3 c (.lst (ms.map V.int)) c = some (.lst (ms.map V.int)) := upd_same
        generalize upd H3 c (.lst (ms.map V.int)) = H4 at s4 er4 ec ⊢
        refine ⟨c, rfl, ⟨_, SqL.of ec⟩, fun D nD => lc_list (xs := ms.map V.int) (fun i H' => Same H4 H' ∧ ∃ ss : List Int, ss.length = i ∧ H' D = some (.lst (ss.map V.int)) ∧ ∀ x ∈ ss, 0 ≤ x ∧ x < bs.length) ⟨same_new nD, [], rfl, upd_same, fun _ z => (nomatch z)⟩ (fun i H' _ h' => h'.1.seq (SqL.of ec)) ?_ ?_⟩
        · rintro i y H' hi ⟨sm, ss, ls, eD, bd⟩
          have li : i < ms.length := by
            have := (List.getElem?_eq_some_iff.mp hi).1
            rw [List.length_map] at this
            exact this
          rw [int_at (nth_at li)] at hi
          cases hi
          refine ⟨rfl, ?_⟩
          repeat walk_at "rd"
          refine ⟨_, eD, small1000 (by rw [List.length_map]; omega), same_put sm nD, ss ++ [nth ms i % bs.length], by rw [List.length_append, ls]; rfl, by rw [upd_same, List.map_append]; rfl, fun x hx => ?_⟩
          rcases List.mem_append.mp hx with m | m
          · exact bd x m
          · rw [List.mem_singleton.mp m]
            exact ⟨Int.emod_nonneg _ (by omega), Int.emod_lt_of_pos _ (by omega)⟩
        · rintro H' ⟨sm, ss, ls, eD, bd⟩
          repeat walk_at "rd"
          exact k _ _ ⟨D, ss, rfl, s4.trans sm, sm _ _ er4, eD, Ne.symm (ne_of_none er4 nD), bd⟩
      · repeat walk_at "rd"
        exact k _ _ ⟨sp, ss, rfl, s3, er3, es, hsr, hss⟩
    clear hsr hss es s3 er3
    rintro σ H3 ⟨sp, ss, rfl, s3, er3, es, hsr, hss⟩
    refine rd_cut (fun σ H' => ∃ (x5 : Option V) (cs : List Int), σ = [some (.ref r), some (.ref a), some (.int bs.length), some (.int way), some (.ref sp), x5, none, none, none] ∧ Same H0 H' ∧ H' r = some (.lst (cs.map V.int)) ∧ Bits cs ∧ cs.length = bs.length) (fun U k => ?_) ?_
    · repeat walk_at "rd"
      refine ⟨sp, rfl, ⟨_, SqL.of es⟩, for_list (xs := ss.map V.int) (fun i σ H' => H' sp = some (.lst (ss.map V.int)) ∧ ∃ (x5 : Option V) (cs : List Int), σ = [some (.ref r), some (.ref a), some (.int bs.length), some (.int way), some (.ref sp), x5, none, none, none] ∧ Same H0 H' ∧ H' r = some (.lst (cs.map V.int)) ∧ Bits cs ∧ cs.length = bs.length) ⟨es, _, bs, rfl, s3, er3, hb, rfl⟩ (fun i σ H' _ h' => SqL.of h'.1) ?_ ?_⟩
      · rintro i y σ H' hi ⟨es, x5, cs, rfl, sm, ec, bc, lc⟩
        obtain ⟨z, hz, rfl⟩ : ∃ z, z ∈ ss ∧ y = V.int z := by
          obtain ⟨z, m, e⟩ := List.mem_map.mp (List.mem_of_getElem? hi)
          exact ⟨z, m, e.symm⟩
        obtain ⟨z0, z1⟩ := hss z hz
        have zt : z.toNat < cs.length := by omega
        repeat walk_at "rd"
        refine rd_ixL (SqL.of ec) (nth_int z0 (by omega)) ?_
        repeat walk_at "rd"
        refine rd_set ec (ix_ok z0 (by rw [List.length_map]; omega)) ?_
        repeat walk_at "rd"
        refine ⟨(upd_ne hsr).trans es, _, cs.set z.toNat (1 - nth cs z.toNat), rfl, same_put sm nr, by rw [upd_same, List.map_set], bits_set bc ?_, by rw [List.length_set]; exact lc⟩
        rcases bits_nth bc zt with e | e <;> rw [e]
        · exact .inr rfl
        · exact .inl rfl
      · rintro σ H' ⟨_, h'⟩
        exact k _ _ h'
    clear es hss s3 er3
    rintro σ H3 ⟨x5, cs, rfl, s3, ec, bc, lc⟩
    refine rd_cut (fun σ H' => ∃ (cs : List Int) (x5 x6 x7 : Option V), σ = [some (.ref r), some (.ref a), some (.int bs.length), some (.int way), some (.ref sp), x5, x6, x7, none] ∧ Same H0 H' ∧ H' r = some (.lst (cs.map V.int)) ∧ Bits cs ∧ cs.length = bs.length) (fun U k => ?_) ?_
    · repeat walk_at "rd"
      refine rd_split (fun c => ?_) fun c => ?_
      · repeat walk_at "rd"
        refine ⟨a, ns, 5, rfl, s3.seq hS0, ?_⟩
        repeat walk_at "rd"
        have z0 := Int.emod_nonneg (cell ns 5) (show (bs.length : Int) ≠ 0 by omega)
        have z1 := Int.emod_lt_of_pos (cell ns 5) (show (0 : Int) < bs.length by omega)
        generalize cell ns 5 % (bs.length : Int) = z at z0 z1 ⊢
        have y0 := Int.emod_nonneg (z + 1) (show (bs.length : Int) ≠ 0 by omega)
        have y1 := Int.emod_lt_of_pos (z + 1) (show (0 : Int) < bs.length by omega)
        generalize (z + 1) % (bs.length : Int) = y at y0 y1 ⊢
        refine rd_ixL (SqL.of ec) (nth_int z0 (by omega)) ?_
        repeat walk_at "rd"
        refine rd_ixL (SqL.of ec) (nth_int y0 (by omega)) ?_
        repeat walk_at "rd"
        refine rd_set ec (ix_ok z0 (by rw [List.length_map]; omega)) ?_
        have s4 := same_put (o := .lst ((cs.map V.int).set z.toNat (.int (nth cs y.toNat)))) s3 nr
        have e4 : upd H3 r (.lst ((cs.map V.int).set z.toNat (.int (nth cs y.toNat)))) r = some (.lst ((cs.set z.toNat (nth cs y.toNat)).map V.int)) := by rw [upd_same, List.map_set]
        generalize upd H3 r (.lst ((cs.map V.int).set z.toNat (.int (nth cs y.toNat)))) = H4 at s4 e4 ⊢
        have b4 := bits_set (i := z.toNat) bc (bits_nth bc (i := y.toNat) (by omega))
        have l4 : (cs.set z.toNat (nth cs y.toNat)).length = bs.length := by rw [List.length_set]; exact lc
        have bz := bits_nth bc (i := z.toNat) (by omega)
        generalize cs.set z.toNat (nth cs y.toNat) = ds at e4 b4 l4
        repeat walk_at "rd"
        refine rd_set e4 (ix_ok y0 (by rw [List.length_map]; omega)) ?_
        repeat walk_at "rd"
        exact k _ _ ⟨ds.set y.toNat (nth cs z.toNat), _, _, _, rfl, same_put s4 nr, by rw [upd_same, List.map_set], bits_set b4 bz, by rw [List.length_set]; exact l4⟩
      · repeat walk_at "rd"
        exact k _ _ ⟨cs, _, _, _, rfl, s3, ec, bc, lc⟩
    clear s3 ec bc lc
    rintro σ H3 ⟨cs, x5, x6, x7, rfl, s3, ec, bc, lc⟩
    repeat walk_at "rd"
    exact q H3 cs s3 ec bc lc
def sp_made (K : PySem.W.Frag) : Sp := fun vs H Q _ => ∃ (a : Addr) (ns : List Int), vs = [.ref a] ∧ SqL K H a (ns.map V.int) ∧ ns.length ≤ 63 ∧ ∀ H' r (bs : List Int), Same H H' → H r = none → H' r = some (.lst (bs.map V.int)) → Bits bs → 1 ≤ bs.length → bs.length ≤ 120 → Q (.ref r) H'
theorem ok_made (T : Txt K mg) : FnOk P w K mg base CX0 3 T.f_made T.fd_made ["_law_script"] (sp_made K) := by
  refine T.F_made.ok sc_made (fun vs H Q E h => ?_) (fun cdv A outer s H vs Q E hr h => ?_)
  · obtain ⟨a, ns, rfl, _⟩ := h
    rfl
  · obtain ⟨a, ns, rfl, hS, hlen, q⟩ := h
    refine ⟨_, (pss_cons (ps_set (i := 1) sc_made.nd rfl (Or.inr rfl) (pe_op op_add pe_int (pe_op op_mod (pe_call (ok_cell_at T) (hr.mono (by decide)) (by rfl) T.g_cell_at T.k_cell_at T.b_cell_at .nil pass0 (pa_cons (pv 0) (pa_cons pe_int pa_nil))) pe_int)))
    (pss_cons (ps_set (i := 2) sc_made.nd rfl (Or.inr rfl) (pe_call (ok_sums_row T) (hr.mono (by decide)) (by rfl) T.g_sums_row T.k_sums_row T.b_sums_row .nil pass0 (pa_cons (pe_op op_mod (pe_call (ok_cell_at T) (hr.mono (by decide)) (by rfl) T.g_cell_at T.k_cell_at T.b_cell_at .nil pass0 (pa_cons (pv 0) (pa_cons pe_int pa_nil))) (pe_op op_add (pv 1) pe_int)) (pa_cons (pv 1) pa_nil))))
    (pss_cons (ps_set (i := 3) sc_made.nd rfl (Or.inl rfl) (pe_op op_mod (pe_call (ok_cell_at T) (hr.mono (by decide)) (by rfl) T.g_cell_at T.k_cell_at T.b_cell_at .nil pass0 (pa_cons (pv 0) (pa_cons pe_int pa_nil))) (pv 1)))
    (pss_cons (ps_set (i := 2) sc_made.nd rfl (Or.inr rfl) (pe_op op_cat (pe_slice sl_list (pv 2) (po_some (pv 3)) po_none) (pe_slice sl_list (pv 2) po_none (po_some (pv 3)))))
    (pss_cons (ps_if (pt_cmpR op_eq (pe_op op_mod (pe_call (ok_cell_at T) (hr.mono (by decide)) (by rfl) T.g_cell_at T.k_cell_at T.b_cell_at .nil pass0 (pa_cons (pv 0) (pa_cons pe_int pa_nil))) pe_int) pe_int (nomark _))
      (pss_one (ps_set (i := 2) sc_made.nd rfl (Or.inr rfl) (pe_lc (own := [("_law_at", 4)]) (g := gName 4) (tt := tYes) rfl sc_made.nd (pi_range1 (by rfl) T.m_range (pa_cons (pv 1) pa_nil)) (blkOk_by (N := N_made) (sc := defScope s_made) (by decide +kernel)) (fun _ _ _ _ _ => pg_name (i := 4) sc_made.nd rfl (Or.inl rfl)) (fun _ _ _ _ _ => pts_nil) (fun _ _ _ _ _ => (pe_ix (ixK (K := K) rfl) (pv 2) (pe_op op_sub (pe_op op_sub (pv 1) pe_int) (pv 4)) (fun _ _ => rfl))))))
      pss_nil)
    (pss_cons (ps_if (pt_cmpR op_eq (pe_op op_mod (pe_op op_fdiv (pe_call (ok_cell_at T) (hr.mono (by decide)) (by rfl) T.g_cell_at T.k_cell_at T.b_cell_at .nil pass0 (pa_cons (pv 0) (pa_cons pe_int pa_nil))) pe_int) pe_int) pe_int (nomark _))
      (pss_one (ps_set (i := 2) sc_made.nd rfl (Or.inr rfl) (pe_lc (own := [("_law_one", 5)]) (g := gName 5) (tt := tYes) rfl sc_made.nd (pi_list (pv 2)) (blkOk_by (N := N_made) (sc := defScope s_made) (by decide +kernel)) (fun _ _ _ _ _ => pg_name (i := 5) sc_made.nd rfl (Or.inl rfl)) (fun _ _ _ _ _ => pts_nil) (fun _ _ _ _ _ => (pe_op op_sub pe_int (pv 5))))))
      pss_nil)
    (pss_one (ps_ret (pe_call (ok_changed T) hr (by rfl) T.g_changed T.k_changed T.b_changed .nil pass0 (pa_cons (pv 2) (pa_cons (pv 0) pa_nil))))))))))), ?_⟩
    refine rd_cut (fun σ H' => ∃ p : Int, 1 ≤ p ∧ p ≤ 120 ∧ σ = [some (.ref a), some (.int p), none, none, none, none] ∧ H' = H) (fun U k => ?_) ?_
    · repeat walk_at "rd"
      refine ⟨a, ns, 1, rfl, hS, ?_⟩
      repeat walk_at "rd"
      have p0 := Int.emod_nonneg (cell ns 1) (show (120 : Int) ≠ 0 by decide)
      have p1 := Int.emod_lt_of_pos (cell ns 1) (show (0 : Int) < 120 by decide)
      exact k _ _ ⟨_, by omega, by omega, rfl, rfl⟩
    rintro σ H1 ⟨p, p0, p1, rfl, rfl⟩
    refine rd_cut (fun σ H' => ∃ (r : Addr) (bs : List Int), σ = [some (.ref a), some (.int p), some (.ref r), none, none, none] ∧ Same H1 H' ∧ H1 r = none ∧ H' r = some (.lst (bs.map V.int)) ∧ Bits bs ∧ (bs.length : Int) = p) (fun U k => ?_) ?_
    · repeat walk_at "rd"
      refine ⟨a, ns, 2, rfl, hS, ?_⟩
      repeat walk_at "rd"
      have s0 := Int.emod_nonneg (cell ns 2) (show p + 1 ≠ 0 by omega)
      have s1 := Int.emod_lt_of_pos (cell ns 2) (show 0 < p + 1 by omega)
      refine ⟨_, p, rfl, ⟨by omega, by omega, by omega⟩, p1, fun H2 d s2 nd ed => ?_⟩
      repeat walk_at "rd"
      refine k _ _ ⟨d, _, rfl, s2, nd, ed, fun x hx => ?_, by rw [laid_len]; omega⟩
      obtain ⟨i, _, rfl⟩ := List.mem_map.mp hx
      exact bit_01 _ _ i
    rintro σ H2 ⟨r, bs, rfl, s2, nr, er, hb, lb⟩
    refine rd_cut (fun σ H' => ∃ b : Int, 0 ≤ b ∧ b < p ∧ σ = [some (.ref a), some (.int p), some (.ref r), some (.int b), none, none] ∧ H' = H2) (fun U k => ?_) ?_
    · repeat walk_at "rd"
      refine ⟨a, ns, 3, rfl, s2.seq hS, ?_⟩
      repeat walk_at "rd"
      exact k _ _ ⟨_, Int.emod_nonneg _ (by omega), Int.emod_lt_of_pos _ (by omega), rfl, rfl⟩
    rintro σ H2' ⟨b, b0, b1, rfl, rfl⟩
    refine rd_cut (fun σ H' => ∃ (r : Addr) (bs : List Int), σ = [some (.ref a), some (.int p), some (.ref r), some (.int b), none, none] ∧ Same H1 H' ∧ H1 r = none ∧ H' r = some (.lst (bs.map V.int)) ∧ Bits bs ∧ (bs.length : Int) = p) (fun U k => ?_) ?_
    · obtain ⟨t, rfl⟩ : ∃ t : Nat, b = t := ⟨_, (Int.toNat_of_nonneg b0).symm⟩
      repeat walk_at "rd"
      refine rd_slL (SqL.of er) fun c nc => ?_
      rw [cut_from]
      have s3 := same_to (o := .lst ((bs.drop t).map V.int)) s2 nc
      have er3 := same_new (o := .lst ((bs.drop t).map V.int)) nc _ _ er
      have ec : upd H2' c (.lst ((bs.drop t).map V.int)) c = some (.lst ((bs.drop t).map V.int)) := upd_same
      generalize upd H2' c (.lst ((bs.drop t).map V.int)) = H3 at s3 er3 ec ⊢
      repeat walk_at "rd"
      refine rd_slL (SqL.of er3) fun e ne => ?_
      rw [cut_to]
      have s4 := same_to (o := .lst ((bs.take t).map V.int)) s3 ne
      have ec4 := same_new (o := .lst ((bs.take t).map V.int)) ne _ _ ec
      have ee : upd H3 e (.lst ((bs.take t).map V.int)) e = some (.lst ((bs.take t).map V.int)) := upd_same
      generalize upd H3 e (.lst ((bs.take t).map V.int)) = H4 at s4 ec4 ee ⊢
      refine rd_cat ec4 ee (by rw [List.length_map, List.length_map, List.length_drop, List.length_take]; omega) fun d nd => ?_
      rw [← List.map_append]
      repeat walk_at "rd"
      refine k _ _ ⟨d, bs.drop t ++ bs.take t, rfl, same_to s4 nd, s4.free nd, upd_same, fun x hx => ?_, by rw [List.length_append, List.length_drop, List.length_take]; omega⟩
      exact (List.mem_append.mp hx).elim (fun m => hb x (List.mem_of_mem_drop m)) fun m => hb x (List.mem_of_mem_take m)
    clear s2 nr er hb lb
    rintro σ H3 ⟨r, bs, rfl, s3, nr, er, hb, lb⟩
    refine rd_cut (fun σ H' => ∃ (r : Addr) (bs : List Int), σ = [some (.ref a), some (.int p), some (.ref r), some (.int b), none, none] ∧ Same H1 H' ∧ H1 r = none ∧ H' r = some (.lst (bs.map V.int)) ∧ Bits bs ∧ (bs.length : Int) = p) (fun U k => ?_) ?_
    · repeat walk_at "rd"
      refine ⟨a, ns, 4, rfl, s3.seq hS, ?_⟩
      repeat walk_at "rd"
      refine rd_split (fun c => ?_) fun c => ?_
      · repeat walk_at "rd"
        refine ⟨p, rfl, by omega, by omega, fun D nD => lc_range (lo := 0) (n := p.toNat) (LcBits H3 D) (lcb_zero nD) ?_ ?_⟩
        · rintro i H' hi h'
          refine ⟨rfl, ?_⟩
          have er' := h'.1 _ _ er
          repeat walk_at "rd"
          refine rd_ixL (SqL.of er') (nth_int (by omega) (by omega)) ?_
          exact lcb_more nD h' (bits_nth hb (by omega)) (by omega)
        · rintro H' ⟨sm, ms, lm, e, bm⟩
          repeat walk_at "rd"
          exact k _ _ ⟨D, ms, rfl, s3.trans sm, s3.free nD, e, bm, by omega⟩
      · repeat walk_at "rd"
        exact k _ _ ⟨r, bs, rfl, s3, nr, er, hb, lb⟩
    clear s3 nr er hb lb
    rintro σ H3 ⟨r, bs, rfl, s3, nr, er, hb, lb⟩
    refine rd_cut (fun σ H' => ∃ (r : Addr) (bs : List Int), σ = [some (.ref a), some (.int p), some (.ref r), some (.int b), none, none] ∧ Same H1 H' ∧ H1 r = none ∧ H' r = some (.lst (bs.map V.int)) ∧ Bits bs ∧ (bs.length : Int) = p) (fun U k => ?_) ?_
    · repeat walk_at "rd"
      refine ⟨a, ns, 4, rfl, s3.seq hS, ?_⟩
      repeat walk_at "rd"
      refine rd_split (fun c => ?_) fun c => ?_
      · repeat walk_at "rd"
        refine ⟨r, rfl, ⟨_, SqL.of er⟩, fun D nD => lc_list (xs := bs.map V.int) (LcBits H3 D) (lcb_zero nD) (fun i H' _ h' => h'.1.seq (SqL.of er)) ?_ ?_⟩
        · rintro i y H' hi h'
          have li : i < bs.length := by
            have := (List.getElem?_eq_some_iff.mp hi).1
            rw [List.length_map] at this
            exact this
          rw [int_at (nth_at li)] at hi
          cases hi
          refine ⟨rfl, ?_⟩
          repeat walk_at "rd"
          refine lcb_more nD h' ?_ (by omega)
          rcases bits_nth hb li with e | e <;> rw [e]
          · exact .inr rfl
          · exact .inl rfl
        · rintro H' ⟨sm, ms, lm, e, bm⟩
          rw [List.length_map] at lm
          repeat walk_at "rd"
          exact k _ _ ⟨D, ms, rfl, s3.trans sm, s3.free nD, e, bm, by omega⟩
      · repeat walk_at "rd"
        exact k _ _ ⟨r, bs, rfl, s3, nr, er, hb, lb⟩
    clear s3 nr er hb lb
    rintro σ H3 ⟨r, bs, rfl, s3, nr, er, hb, lb⟩
    repeat walk_at "rd"
    refine ⟨H1, r, a, bs, ns, rfl, s3, nr, hS, hlen, er, hb, by omega, by omega, fun H4 cs s4 ec bc lc => ?_⟩
    exact q H4 r cs s4 nr ec bc (by omega) (by omega)
def sp_row (K : PySem.W.Frag) : Sp := fun vs H Q _ => ∃ (a : Addr) (ns : List Int), vs = [.ref a] ∧ SqL K H a (ns.map V.int) ∧ ns.length ≤ 63 ∧ ∀ H' r (bs : List Int), Same H H' → H' r = some (.lst (bs.map V.int)) → Bits bs → 1 ≤ bs.length → bs.length ≤ 120 → Q (.ref r) H'
theorem bit_mod (z : Int) : z % 2 = 0 ∨ z % 2 = 1 := by omega
theorem ok_row (T : Txt K mg) : FnOk P w K mg base CX0 4 T.f_row T.fd_row ["_law_script"] (sp_row K) := by
  refine T.F_row.ok sc_row (fun vs H Q E h => ?_) (fun cdv A outer s H vs Q E hr h => ?_)
  · obtain ⟨a, ns, rfl, _⟩ := h
    rfl
  · obtain ⟨a, ns, rfl, hS, hlen, q⟩ := h
    refine ⟨_, (pss_cons (ps_set (i := 1) sc_row.nd rfl (Or.inl rfl) (pe_call (ok_cell_at T) (hr.mono (by decide)) (by rfl) T.g_cell_at T.k_cell_at T.b_cell_at .nil pass0 (pa_cons (pv 0) (pa_cons pe_int pa_nil))))
    (pss_cons (ps_set (i := 2) sc_row.nd rfl (Or.inl rfl) (pe_lst pa_nil))
    (pss_cons (ps_if (pt_cmpR op_eq (pe_op op_mod (pv 1) pe_int) pe_int (nomark _))
      (pss_one (ps_setLc (i := 2) (own := [("_law_cell", 3)]) (g := gName 3) (tt := tYes) rfl sc_row.nd rfl rfl (sw_true rfl rfl rfl (by decide +kernel)) (pi_list (pe_slice sl_list (pv 0) (po_some pe_int) (po_some pe_int))) (blkOk_by (N := N_row) (sc := defScope s_row) (by decide +kernel)) (fun _ _ _ _ _ => pg_name (i := 3) sc_row.nd rfl (Or.inl rfl)) (fun _ _ _ _ _ => pts_nil) (fun _ _ _ _ _ => (pe_op op_mod (pv 3) pe_int))))
      pss_nil)
    (pss_cons (ps_if (pt_cmpR op_eq (pe_op op_mod (pv 1) pe_int) pe_int (nomark _))
      (pss_cons (ps_for PassesOwn.never rfl (pi_list (pe_slice sl_list (pv 0) (po_some pe_int) (po_some pe_int))) (pg_name (i := 3) sc_row.nd rfl (Or.inl rfl))
        (pss_one (ps_set (i := 2) sc_row.nd rfl (Or.inl rfl) (pe_op op_cat (pv 2) (pe_lst (pa_cons (pe_op op_mod (pv 3) pe_int) (pa_cons (pe_op op_mod (pe_op op_fdiv (pv 3) pe_int) pe_int) pa_nil)))))))
      (pss_one (ps_if (pt_cmpR op_eq (pe_op op_mod (pe_op op_fdiv (pv 1) pe_int) pe_int) pe_int (nomark _))
        (pss_one (ps_set (i := 2) sc_row.nd rfl (Or.inl rfl) (pe_slice sl_list (pv 2) po_none (po_some (pe_un un_neg pe_int)))))
        pss_nil)))
      pss_nil)
    (pss_cons (ps_if (pt_cmpR op_gt (pe_op op_mod (pv 1) pe_int) pe_int (nomark _))
      (pss_one (ps_set (i := 2) sc_row.nd rfl (Or.inl rfl) (pe_call (ok_made T) hr (by rfl) T.g_made T.k_made T.b_made .nil pass0 (pa_cons (pv 0) pa_nil))))
      pss_nil)
    (pss_cons (ps_if (pt_cmpR (op_eqD hr.units) (pv 2) (pe_lst pa_nil) (nomark _))
      (pss_one (ps_set (i := 2) sc_row.nd rfl (Or.inl rfl) (pe_lst (pa_cons (pe_op op_mod (pe_op op_fdiv (pv 1) pe_int) pe_int) pa_nil))))
      pss_nil)
    (pss_one (ps_ret (pv 2))))))))), ?_⟩
    refine rd_cut (fun σ H' => ∃ z : Int, σ = [some (.ref a), some (.int z), none, none] ∧ H' = H) (fun U k => ?_) ?_
    · repeat walk_at "rd"
      refine ⟨a, ns, 0, rfl, hS, ?_⟩
      repeat walk_at "rd"
      exact k _ _ ⟨_, rfl, rfl⟩
    rintro σ H1 ⟨z, rfl, rfl⟩
    refine rd_cut (fun σ H' => ∃ (r : Addr) (bs : List Int) (x3 : Option V), σ = [some (.ref a), some (.int z), some (.ref r), x3] ∧ Same H1 H' ∧ H' r = some (.lst (bs.map V.int)) ∧ Bits bs ∧ bs.length = 0) (fun U k => ?_) ?_
    · repeat walk_at "rd"
      refine ⟨Nat.zero_le _, fun r nr => ?_⟩
      repeat walk_at "rd"
      exact k _ _ ⟨r, [], _, rfl, same_new nr, upd_same, fun _ z => (nomatch z), rfl⟩
    rintro σ H2 ⟨r, bs, x3, rfl, s2, er, hb, lb⟩
    refine rd_cut (fun σ H' => ∃ (r : Addr) (bs : List Int) (x3 : Option V), σ = [some (.ref a), some (.int z), some (.ref r), x3] ∧ Same H1 H' ∧ H' r = some (.lst (bs.map V.int)) ∧ Bits bs ∧ bs.length ≤ 120 ∧ (z % 4 = 1 → bs.length = 0)) (fun U k => ?_) ?_
    · repeat walk_at "rd"
      refine rd_split (fun c => ?_) fun c => ?_
      · have c' := V.int.inj c
        repeat walk_at "rd"
        refine rd_slL (s2.seq hS) fun d nd => ?_
        obtain ⟨ms, em, _, lm⟩ := cut_any ns (some 1) (some 121)
        rw [em]
        have s4 := same_to (o := .lst (ms.map V.int)) s2 nd
        have ec : upd H2 d (.lst (ms.map V.int)) d = some (.lst (ms.map V.int)) := upd_same
        generalize upd H2 d (.lst (ms.map V.int)) = H4 at s4 ec ⊢
        refine ⟨d, rfl, ⟨_, SqL.of ec⟩, fun D nD => lc_list (xs := ms.map V.int) (LcBits H4 D) (lcb_zero nD) (fun i H' _ h' => h'.1.seq (SqL.of ec)) ?_ ?_⟩
        · rintro i y H' hi h'
          have li : i < ms.length := by
            have := (List.getElem?_eq_some_iff.mp hi).1
            rw [List.length_map] at this
            exact this
          rw [int_at (nth_at li)] at hi
          cases hi
          refine ⟨rfl, ?_⟩
          repeat walk_at "rd"
          exact lcb_more nD h' (bit_mod _) (by omega)
        · rintro H' ⟨sm, cs, lc, e, bm⟩
          rw [List.length_map] at lc
          repeat walk_at "rd"
          exact k _ _ ⟨D, cs, _, rfl, s4.trans sm, e, bm, by omega, fun h => by omega⟩
      · repeat walk_at "rd"
        exact k _ _ ⟨r, bs, _, rfl, s2, er, hb, by omega, fun _ => lb⟩
    clear s2 er hb lb
    rintro σ H2 ⟨r, bs, x3, rfl, s2, er, hb, lb, l0⟩
    refine rd_cut (fun σ H' => ∃ (r : Addr) (bs : List Int) (x3 : Option V), σ = [some (.ref a), some (.int z), some (.ref r), x3] ∧ Same H1 H' ∧ H' r = some (.lst (bs.map V.int)) ∧ Bits bs ∧ bs.length ≤ 120) (fun U k => ?_) ?_
    · repeat walk_at "rd"
      refine rd_split (fun c => ?_) fun c => ?_
      · have l0 := l0 (V.int.inj c)
        refine rd_cut (fun σ H' => ∃ (r : Addr) (bs : List Int) (x3 : Option V), σ = [some (.ref a), some (.int z), some (.ref r), x3] ∧ Same H1 H' ∧ H' r = some (.lst (bs.map V.int)) ∧ Bits bs ∧ bs.length ≤ 120) (fun U' k' => ?_) ?_
        · repeat walk_at "rd"
          refine rd_slL (s2.seq hS) fun d nd => ?_
          have lm : (cutV (ns.map V.int) (some 1) (some 61)).length ≤ 60 := by
            unfold cutV
            rw [List.length_take]
            show min (min 61 (ns.map V.int).length - min 1 (ns.map V.int).length) _ ≤ 60
            omega
          obtain ⟨ms, em, _, _⟩ := cut_any ns (some 1) (some 61)
          rw [em, List.length_map] at lm
          rw [em]
          have s4 := same_to (o := .lst (ms.map V.int)) s2 nd
          have er4 := same_new (o := .lst (ms.map V.int)) nd _ _ er
          have ec : upd H2 d (.lst (ms.map V.int)) d = some (.lst (ms.map V.int)) := upd_same
          generalize upd H2 d (.lst (ms.map V.int)) = H4 at s4 er4 ec ⊢
          refine ⟨d, rfl, ⟨_, SqL.of ec⟩, for_list (xs := ms.map V.int) (fun i σ H' => Same H4 H' ∧ ∃ (r : Addr) (bs : List Int) (x3 : Option V), σ = [some (.ref a), some (.int z), some (.ref r), x3] ∧ H' r = some (.lst (bs.map V.int)) ∧ Bits bs ∧ bs.length = 2 * i) ⟨Same.refl _, r, bs, _, rfl, er4, hb, by omega⟩ (fun i σ H' _ h' => h'.1.seq (SqL.of ec)) ?_ ?_⟩
          · rintro i y σ H' hi ⟨sm, r, bs, x3, rfl, er, hb, lb⟩
            have li : i < ms.length := by
              have := (List.getElem?_eq_some_iff.mp hi).1
              rw [List.length_map] at this
              exact this
            rw [int_at (nth_at li)] at hi
            cases hi
            repeat walk_at "rd"
            refine ⟨by show 2 ≤ sizeLine; decide, fun e ne => ?_⟩
            refine rd_cat (same_new ne _ _ er) upd_same (by rw [List.length_map]; show bs.length + 2 ≤ 1000; omega) fun f nf => ?_
            repeat walk_at "rd"
            refine ⟨same_to (same_to sm ne) nf, f, bs ++ [nth ms i % 2, nth ms i / 2 % 2], _, rfl, by rw [upd_same, List.map_append]; rfl, fun x hx => ?_, by rw [List.length_append, lb]; show 2 * i + 2 = 2 * (i + 1); omega⟩
            rcases List.mem_append.mp hx with m | m
            · exact hb x m
            · simp only [List.mem_cons, List.not_mem_nil, or_false] at m
              rcases m with e | e <;> rw [e] <;> exact bit_mod _
          · rintro σ H' ⟨sm, r, bs, x3, rfl, er, hb, lb⟩
            rw [List.length_map] at lb
            exact k' _ _ ⟨r, bs, _, rfl, s4.trans sm, er, hb, by omega⟩
        clear s2 er hb lb l0
        rintro σ H2 ⟨r, bs, x3, rfl, s2, er, hb, lb⟩
        repeat walk_at "rd"
        refine rd_split (fun c2 => ?_) fun c2 => ?_
        · repeat walk_at "rd"
          refine rd_slL (SqL.of er) fun d nd => ?_
          obtain ⟨ms, em, hm, lm⟩ := cut_any bs none (some (-1))
          rw [show cutV (bs.map V.int) none (some (-1)) = ms.map V.int from em]
          repeat walk_at "rd"
          exact k _ _ ⟨d, ms, _, rfl, same_to s2 nd, upd_same, fun x hx => hb x (hm x hx), by omega⟩
        · repeat walk_at "rd"
          exact k _ _ ⟨r, bs, _, rfl, s2, er, hb, lb⟩
      · repeat walk_at "rd"
        exact k _ _ ⟨r, bs, _, rfl, s2, er, hb, lb⟩
    clear s2 er hb lb l0
    rintro σ H2 ⟨r, bs, x3, rfl, s2, er, hb, lb⟩
    refine rd_cut (fun σ H' => ∃ (r : Addr) (bs : List Int) (x3 : Option V), σ = [some (.ref a), some (.int z), some (.ref r), x3] ∧ Same H1 H' ∧ H' r = some (.lst (bs.map V.int)) ∧ Bits bs ∧ bs.length ≤ 120) (fun U k => ?_) ?_
    · repeat walk_at "rd"
      refine rd_split (fun c => ?_) fun c => ?_
      · repeat walk_at "rd"
        refine ⟨a, ns, rfl, s2.seq hS, hlen, fun H3 d cs s3 nd ed bc l1 l2 => ?_⟩
        repeat walk_at "rd"
        exact k _ _ ⟨d, cs, _, rfl, s2.trans s3, ed, bc, l2⟩
      · repeat walk_at "rd"
        exact k _ _ ⟨r, bs, _, rfl, s2, er, hb, lb⟩
    clear s2 er hb lb
    rintro σ H2 ⟨r, bs, x3, rfl, s2, er, hb, lb⟩
    repeat walk_at "rd"
    refine ⟨Nat.zero_le _, fun e ne => ?_⟩
    refine rd_eqL (ns := bs) (ms := []) (SqL.of (same_new ne _ _ er)) (SqL.of upd_same) ?_
    repeat walk_at "rd"
    refine rd_split (fun c => ?_) fun c => ?_
    · repeat walk_at "rd"
      refine ⟨by show 1 ≤ sizeLine; decide, fun f nf => ?_⟩
      repeat walk_at "rd"
      refine q _ f [z / 4 % 2] (same_to (same_to s2 ne) nf) upd_same (fun x hx => ?_) (Nat.le_refl _) (by show 1 ≤ 120; decide)
      rw [List.mem_singleton.mp hx]
      exact bit_mod _
    · repeat walk_at "rd"
      refine q _ r bs (same_to s2 ne) (same_new ne _ _ er) hb ?_ lb
      cases bs with
      | nil => exact absurd rfl c
      | cons x y => exact Nat.le_add_left 1 _
/-! ### what the law asks -/
def sp_own : Sp := fun vs H Q _ => ∃ (c : Int), vs = [.int c] ∧ ∀ H', Same H H' → Q (.bl true) H'
theorem ok_own (T : Txt K mg) : FnOk P w K mg base CX0 3 T.f_own T.fd_own ["_law_cell"] sp_own := by
  refine T.F_own.ok sc_own (fun vs H Q E h => ?_) (fun cdv A outer s H vs Q E hr h => ?_)
  · obtain ⟨c, rfl, _⟩ := h
    rfl
  · obtain ⟨c, rfl, q⟩ := h
    refine ⟨_, (pss_cons (ps_set (i := 1) sc_own.nd rfl (Or.inl rfl) (pe_lst (pa_cons (pe_op op_mod (pv 0) pe_int) (pa_cons (pe_op op_add (pe_op op_mod (pv 0) (pe_op op_pow pe_int pe_int)) pe_int) (pa_cons (pe_op op_add (pe_op op_pow pe_int pe_int) (pe_op op_mod (pv 0) pe_int)) pa_nil)))))
    (pss_cons (ps_set (i := 2) sc_own.nd rfl (Or.inl rfl) (pe_hold (pmk_oex T.ox_Uneven T.iC_Uneven T.tI_Uneven (ok_init_Uneven T) (hr.mono (by decide)) T.b_init_Uneven .nil pass0 (by rfl) T.gc_Uneven (pa_cons (pe_ix ix_list (pv 1) pe_int (fun _ _ => rfl)) (pa_cons (pe_ix ix_list (pv 1) pe_int (fun _ _ => rfl)) (pa_cons (pe_ix ix_list (pv 1) pe_int (fun _ _ => rfl)) pa_nil))))))
    (pss_one (ps_ret (pe_and (pe_callB call_isH (by rfl) T.m_isinstance (by decide +kernel) (pa_cons (pv 2) (pa_cons (pe_glob (v := .ref T.c_BeatError) (by rfl) T.gc_BeatError rfl) pa_nil))) (pe_one (pe_call (ok_alike T) hr (by rfl) T.g_alike T.k_alike T.b_alike .nil pass0 (pa_cons (pe_lst (pa_cons (pe_heldF (pv 2)) (pa_cons (pe_heldF (pv 2)) (pa_cons (pe_heldF (pv 2)) pa_nil)))) (pa_cons (pv 1) pa_nil))))))))), ?_⟩
    repeat walk_at "rd"
    refine ⟨by show 3 ≤ sizeLine; decide, fun t nt => ?_⟩
    generalize c % 7919 = x
    generalize c % (10 : Int) ^ Int.toNat 18 + 8000 = y
    generalize (10 : Int) ^ Int.toNat 19 + c % 104729 = z
    have s1 := same_new (o := .lst [.int x, .int y, .int z]) nt
    have et : upd H t (.lst [.int x, .int y, .int z]) t = some (.lst (([x, y, z] : List Int).map V.int)) := upd_same
    generalize upd H t (.lst [.int x, .int y, .int z]) = H1 at s1 et ⊢
    repeat walk_at "rd"
    refine rd_hold (rd_mkO ?_)
    repeat walk_at "rd"
    refine rd_ixL (SqL.of et) (nth_int (l := [x, y, z]) (by decide) (by show (0 : Int) < 3; decide)) ?_
    repeat walk_at "rd"
    refine rd_ixL (SqL.of et) (nth_int (l := [x, y, z]) (by decide) (by show (1 : Int) < 3; decide)) ?_
    repeat walk_at "rd"
    refine rd_ixL (SqL.of et) (nth_int (l := [x, y, z]) (by decide) (by show (2 : Int) < 3; decide)) ?_
    repeat walk_at "rd"
    refine mk_uneven (QX := fun cls d H' => ∀ a, H' a = none → gName 2 (.ref a) _ (upd H' a (ExH a cls d)) _) fun H2 d s2 nd ed2 a na => ?_
    have ed2 : H2 d = some (.xd (ufs (.int x) (.int y) (.int z))) := ed2
    have s3 := same_to (o := ExH a (.ref T.c_Uneven) (some d)) s2 na
    have ea : upd H2 a (ExH a (.ref T.c_Uneven) (some d)) a = some (ExH a (.ref T.c_Uneven) (some d)) := upd_same
    have ed := same_new (o := ExH a (.ref T.c_Uneven) (some d)) na _ _ ed2
    generalize upd H2 a (ExH a (.ref T.c_Uneven) (some d)) = H3 at s3 ea ed ⊢
    repeat walk_at "rd"
    refine rd_isH ⟨ea, fun dd e => by cases e; exact ⟨_, ed⟩⟩ T.h_Uneven (.own _) T.kit_Uneven_BeatError ?_
    repeat walk_at "rd"
    refine rd_heldF ?_
    repeat walk_at "rd"
    refine ⟨a, _, d, _, _, rfl, ea, ed, T.h_Uneven, T.no_Uneven_width, ufs_width, ?_⟩
    refine rd_cons ?_
    refine rd_heldF ?_
    repeat walk_at "rd"
    refine ⟨a, _, d, _, _, rfl, ea, ed, T.h_Uneven, T.no_Uneven_most, ufs_most, ?_⟩
    refine rd_cons ?_
    refine rd_heldF ?_
    repeat walk_at "rd"
    refine ⟨a, _, d, _, _, rfl, ea, ed, T.h_Uneven, T.no_Uneven_least, ufs_least, ?_⟩
    repeat walk_at "rd"
    refine ⟨by show 3 ≤ sizeLine; decide, fun e ne => ?_⟩
    repeat walk_at "rd"
    refine ⟨e, t, [x, y, z], rfl, upd_same, same_new ne _ _ (s3 _ _ et), fun H4 s4 => ?_⟩
    exact q H4 (s1.trans (s3.trans ((same_new ne).trans s4)))
def sp_even : Sp := fun vs H Q _ => ∃ (r : Addr) (bs : List Int), vs = [.ref r] ∧ H r = some (.lst (bs.map V.int)) ∧ Bits bs ∧ 1 ≤ bs.length ∧ bs.length ≤ 120 ∧ NoFault bs ∧ ∀ H', Q (.bl true) H'
theorem ok_even (T : Txt K mg) : FnOk P w K mg base CX0 6 T.f_even T.fd_even ["_law_row_here"] sp_even := by
  refine T.F_even.ok sc_even (fun vs H Q E h => ?_) (fun cdv A outer s H vs Q E hr h => ?_)
  · obtain ⟨r, bs, rfl, _⟩ := h
    rfl
  · obtain ⟨r, bs, rfl, er, hb, hn, hl, nf, q⟩ := h
    refine ⟨_, (pss_cons (ps_set (i := 1) sc_even.nd rfl (Or.inl rfl) (pe_callB call_lenL (by rfl) T.m_len PySem.boot_len (pa_cons (pv 0) pa_nil)))
    (pss_cons (ps_set (i := 2) sc_even.nd rfl (Or.inl rfl) (pe_call (ok_sums_row T) (hr.mono (by decide)) (by rfl) T.g_sums_row T.k_sums_row T.b_sums_row .nil pass0 (pa_cons (pe_callB (cr_sum rfl) (by rfl) T.m_sum (by decide +kernel) (pa_cons (pv 0) pa_nil)) (pa_cons (pv 1) pa_nil))))
    (pss_cons (ps_set (i := 3) sc_even.nd rfl (Or.inl rfl) (pe_callTy call_lstL (by rfl) T.m_list (by decide +kernel) (pa_cons (pv 0) pa_nil)))
    (pss_cons (ps_set (i := 4) sc_even.nd rfl (Or.inl rfl) (pe_call (ok_start T) hr (by rfl) T.g_start T.k_start T.b_start .nil passL (pa_cons (pv 3) pa_nil)))
    (pss_cons (ps_if (PW.pt (pw_or (pt_not (pt_val (pe_call (ok_whole T) (hr.mono (by decide)) (by rfl) T.g_whole T.k_whole T.b_whole .nil pass0 (pa_cons (pv 4) pa_nil)))) (pw_or (pt_cmpR op_lt (pv 4) pe_int (nomark _)) (pw_or (pt_cmpR op_ge (pv 4) (pv 1) (nomark _)) (pw_or1 (pt_not (pt_val (pe_call (ok_alike T) (hr.mono (by decide)) (by rfl) T.g_alike T.k_alike T.b_alike .nil pass0 (pa_cons (pv 3) (pa_cons (pv 0) pa_nil))))))))))
      (pss_one (ps_ret pe_bl))
      pss_nil)
    (pss_cons (ps_set (i := 5) sc_even.nd rfl (Or.inl rfl) (pe_op op_cat (pv 0) (pv 0)))
    (pss_cons (ps_for PassesOwn.never rfl (pi_range1 (by rfl) T.m_range (pa_cons (pv 4) pa_nil)) (pg_name (i := 6) sc_even.nd rfl (Or.inl rfl))
      (pss_one (ps_if (pt_cmpR (op_eqD hr.units) (pe_slice sl_list (pv 5) (po_some (pv 6)) (po_some (pe_op op_add (pv 6) (pv 1)))) (pv 2) (nomark _))
        (pss_one (ps_ret pe_bl))
        pss_nil)))
    (pss_one (ps_ret (pe_and (pe_cmpR (op_eqD hr.units) (pe_slice sl_list (pv 5) (po_some (pv 4)) (po_some (pe_op op_add (pv 4) (pv 1)))) (pv 2) (nomark _)) (pe_one (pe_call (ok_alike T) (hr.mono (by decide)) (by rfl) T.g_alike T.k_alike T.b_alike .nil pass0 (pa_cons (pe_call (ok_turned T) (hr.mono (by decide)) (by rfl) T.g_turned T.k_turned T.b_turned .nil pass0 (pa_cons (pv 3) (pa_cons (pv 4) pa_nil))) (pa_cons (pv 2) pa_nil)))))))))))))), ?_⟩
    have hS : SqL K H r (bs.map V.int) := SqL.of er
    have bw := bits_wheel hb hn
    repeat walk_at "rd"
    rw [List.length_map]
    repeat walk_at "rd"
    refine rd_sum hS ?_
    repeat walk_at "rd"
    refine ⟨bs.sum, bs.length, rfl, bw, by omega, fun H1 d s1 nd ed => ?_⟩
    repeat walk_at "rd"
    refine rd_lstOf (s1.seq hS) fun hd nhd => ?_
    have s2 := same_to (o := .lst (bs.map V.int)) s1 nhd
    have ed2 := same_new (o := .lst (bs.map V.int)) nhd _ _ ed
    have eh : upd H1 hd (.lst (bs.map V.int)) hd = some (.lst (bs.map V.int)) := upd_same
    generalize upd H1 hd (.lst (bs.map V.int)) = H2 at s2 ed2 eh ⊢
    repeat walk_at "rd"
    refine ⟨hd, bs, rfl, eh, hb, hn, hl, fun _ t H3 s3 ht et no => ?_, fun w m l hf => (no_not nf hf).elim⟩
    repeat walk_at "rd"
    refine ⟨t, rfl, ?_⟩
    repeat walk_at "rd"
    refine rd_nay (by omega) ?_
    repeat walk_at "rd"
    refine rd_nay (by omega) ?_
    repeat walk_at "rd"
    refine ⟨hd, r, bs, rfl, s3 _ _ eh, s3 _ _ (s2 _ _ er), fun H4 s4 => ?_⟩
    have s34 := s3.trans s4
    have er4 := s34 _ _ (s2 _ _ er)
    repeat walk_at "rd"
    refine rd_cat er4 er4 (by rw [List.length_map]; omega) fun tw ntw => ?_
    rw [← List.map_append]
    have s5 := same_to (o := .lst ((bs ++ bs).map V.int)) s34 ntw
    have etw : upd H4 tw (.lst ((bs ++ bs).map V.int)) tw = some (.lst ((bs ++ bs).map V.int)) := upd_same
    generalize upd H4 tw (.lst ((bs ++ bs).map V.int)) = H5 at s5 etw ⊢
    have ed5 := s5 _ _ ed2
    have eh5 := s5 _ _ eh
    have slice : ∀ u : Nat, u < bs.length → ∀ (lo hi : Int), lo = u → hi = u + bs.length → cutV ((bs ++ bs).map V.int) (some lo) (some hi) = (roll bs u).map V.int := fun u hu lo hi e1 e2 => by
      have := cut_mid (ns := bs ++ bs) (a := u) (b := u + bs.length) (by omega) (by rw [List.length_append]; omega)
      rw [show u + bs.length - u = bs.length by omega, ← roll_is (by omega)] at this
      rw [e1, e2, ← Int.natCast_add]
      exact this
    repeat walk_at "rd"
    refine ⟨(t : Int), rfl, by omega, by omega, ?_⟩
    rw [Int.toNat_natCast]
    refine for_range (lo := 0) (n := t) (fun i σ H' => (∃ x6, σ = [some (.ref r), some (.int bs.length), some (.ref d), some (.ref hd), some (.int t), some (.ref tw), x6]) ∧ Same H5 H') ⟨⟨_, rfl⟩, Same.refl H5⟩ ?_ ?_
    · rintro i σ H' hi ⟨⟨x6, rfl⟩, sm⟩
      repeat walk_at "rd"
      refine rd_slL (SqL.of (sm _ _ etw)) fun c nc => ?_
      rw [slice i (by omega) _ _ (by omega) (by omega)]
      repeat walk_at "rd"
      refine rd_eqL (SqL.of upd_same) (SqL.of (same_new nc _ _ (sm _ _ ed5))) ?_
      repeat walk_at "rd"
      refine rd_nay (no i hi) ?_
      repeat walk_at "rd"
      exact ⟨⟨_, rfl⟩, same_to sm nc⟩
    · rintro σ H' ⟨⟨x6, rfl⟩, sm⟩
      repeat walk_at "rd"
      refine rd_slL (SqL.of (sm _ _ etw)) fun c nc => ?_
      rw [slice t ht _ _ rfl (by omega)]
      repeat walk_at "rd"
      refine rd_eqL (SqL.of upd_same) (SqL.of (same_new nc _ _ (sm _ _ ed5))) ?_
      rw [decide_eq_true et]
      repeat walk_at "rd"
      refine ⟨hd, bs, t, rfl, same_new nc _ _ (sm _ _ eh5), hn, hl, fun H7 e s7 ne ee => ?_⟩
      rw [show ((t : Int) % (bs.length : Int)).toNat = t by rw [Int.emod_eq_of_lt (by omega) (by omega)]; omega, et] at ee
      repeat walk_at "rd"
      refine ⟨e, d, _, rfl, ee, s7 _ _ (same_new nc _ _ (sm _ _ ed5)), fun H8 s8 => ?_⟩
      exact q H8
def sp_own_counts (K : PySem.W.Frag) : Sp := fun vs H Q _ => ∃ (d : Addr) (bs : List Int) (w : Nat), vs = [.ref d, .int bs.length, .int w] ∧ SqL K H d ((headsTo (bs ++ bs) (bs.length + bs.length)).map V.int) ∧ w ≤ bs.length ∧ bs.length ≤ 120 ∧ ∀ H' e, Same H H' → H' e = some (.lst ((cntsOf bs w).map V.int)) → Q (.ref e) H'
theorem ok_own_counts (T : Txt K mg) : FnOk P w K mg base CX0 1 T.f_own_counts T.fd_own_counts ["_law_heads", "_law_places", "_law_width"] (sp_own_counts K) := by
  refine T.F_own_counts.ok sc_own_counts (fun vs H Q E h => ?_) (fun cdv A outer s H vs Q E hr h => ?_)
  · obtain ⟨d, bs, w, rfl, _⟩ := h
    rfl
  · obtain ⟨d, bs, w, rfl, hS, hw, hl, q⟩ := h
    refine ⟨_, (pss_one (ps_ret (pe_lc (own := [("_law_at", 3)]) (g := gName 3) (tt := tYes) rfl sc_own_counts.nd (pi_range1 (by rfl) T.m_range (pa_cons (pv 1) pa_nil)) (blkOk_by (N := N_own_counts) (sc := defScope s_own_counts) (by decide +kernel)) (fun _ _ _ _ _ => pg_name (i := 3) sc_own_counts.nd rfl (Or.inl rfl)) (fun _ _ _ _ _ => pts_nil) (fun _ _ _ _ _ => (pe_op op_sub (pe_ix (ixK (K := K) rfl) (pv 0) (pe_op op_add (pv 3) (pv 2)) (fun _ _ => rfl)) (pe_ix (ixK (K := K) rfl) (pv 0) (pv 3) (fun _ _ => rfl))))))), ?_⟩
    repeat walk_at "rd"
    refine ⟨(bs.length : Int), rfl, by omega, by omega, ?_⟩
    rw [Int.toNat_natCast]
    refine fun D nD => lc_range (lo := 0) (n := bs.length) (fun i H' => Same H H' ∧ H' D = some (.lst (((List.range i).map (cnt bs w)).map V.int))) ⟨same_new nD, upd_same⟩ ?_ ?_
    · rintro i H' hi ⟨sm, eD⟩
      refine ⟨rfl, ?_⟩
      have hS' := sm.seq hS
      repeat walk_at "rd"
      refine rd_ixL hS' (at_of (j := i + w) (v := .int (pre (bs ++ bs) (i + w))) (by omega) (int_at (headsTo_at _ (by omega)))) ?_
      repeat walk_at "rd"
      refine rd_ixL hS' (at_of (j := i) (v := .int (pre (bs ++ bs) i)) (by omega) (int_at (headsTo_at _ (by omega)))) ?_
      repeat walk_at "rd"
      exact ⟨_, eD, small1000 (by rw [tab_len]; omega), same_put sm nD, by rw [upd_same, tab_succ]; rfl⟩
    · rintro H' ⟨sm, eD⟩
      exact q H' D sm eD
def sp_own_fault : Sp := fun vs H Q _ => ∃ (r t : Addr) (bs : List Int) (w m l : Nat), vs = [.ref r, .ref t] ∧ H r = some (.lst (bs.map V.int)) ∧ H t = some (.tup [.int w, .int m, .int l]) ∧ Bits bs ∧ 1 ≤ bs.length ∧ bs.length ≤ 120 ∧ IsFault bs w m l ∧ ∀ H', Same H H' → Q (.bl true) H'
theorem ok_own_fault (T : Txt K mg) : FnOk P w K mg base CX0 2 T.f_own_fault T.fd_own_fault ["_law_row_here", "_law_found"] sp_own_fault := by
  refine T.F_own_fault.ok sc_own_fault (fun vs H Q E h => ?_) (fun cdv A outer s H vs Q E hr h => ?_)
  · obtain ⟨r, t, bs, w, m, l, rfl, _⟩ := h
    rfl
  · obtain ⟨r, t, bs, w, m, l, rfl, er, et, hb, hn, hl, hf, q⟩ := h
    refine ⟨_, (pss_cons (ps_set (i := 2) sc_own_fault.nd rfl (Or.inl rfl) (pe_callB call_lenL (by rfl) T.m_len PySem.boot_len (pa_cons (pv 0) pa_nil)))
    (pss_cons (ps_if (PW.pt (pw_or (pt_cmpR op_lt (pe_ix ix_tup (pv 1) pe_int (fun _ _ => rfl)) pe_int (nomark _)) (pw_or1 (pt_cmpR op_gt (pe_ix ix_tup (pv 1) pe_int (fun _ _ => rfl)) (pv 2) (nomark _)))))
      (pss_one (ps_ret pe_bl))
      pss_nil)
    (pss_cons (ps_set (i := 3) sc_own_fault.nd rfl (Or.inl rfl) (pe_lst (pa_cons pe_int pa_nil)))
    (pss_cons (ps_for PassesOwn.never rfl (pi_list (pe_op op_cat (pv 0) (pv 0))) (pg_name (i := 4) sc_own_fault.nd rfl (Or.inl rfl))
      (pss_one (ps_expr (pe_bm PySem.F.plainAttrs_list PySem.F.slot_list_append PySem.F.type_list_append mt_append (pv 3) (pa_cons (pe_op op_add (pe_ix ix_list (pv 3) (pe_un un_neg pe_int) (fun _ _ => rfl)) (pv 4)) pa_nil)))))
    (pss_cons (ps_for PassesOwn.never rfl (pi_range2 (by rfl) T.m_range (pa_cons pe_int (pa_cons (pe_ix ix_tup (pv 1) pe_int (fun _ _ => rfl)) pa_nil))) (pg_name (i := 5) sc_own_fault.nd rfl (Or.inl rfl))
      (pss_cons (ps_set (i := 6) sc_own_fault.nd rfl (Or.inl rfl) (pe_call (ok_own_counts T) hr (by rfl) T.g_own_counts T.k_own_counts T.b_own_counts .nil pass0 (pa_cons (pv 3) (pa_cons (pv 2) (pa_cons (pv 5) pa_nil)))))
      (pss_one (ps_if (pt_cmpR op_gt (pe_op op_sub (pe_callB (cr_max rfl) (by rfl) T.m_max (by decide +kernel) (pa_cons (pv 6) pa_nil)) (pe_callB (cr_min rfl) (by rfl) T.m_min (by decide +kernel) (pa_cons (pv 6) pa_nil))) pe_int (nomark _))
        (pss_one (ps_ret pe_bl))
        pss_nil))))
    (pss_cons (ps_set (i := 6) sc_own_fault.nd rfl (Or.inl rfl) (pe_call (ok_own_counts T) hr (by rfl) T.g_own_counts T.k_own_counts T.b_own_counts .nil pass0 (pa_cons (pv 3) (pa_cons (pv 2) (pa_cons (pe_ix ix_tup (pv 1) pe_int (fun _ _ => rfl)) pa_nil)))))
    (pss_cons (ps_if (pt_cmpR op_ne (pe_op op_sub (pe_callB (cr_max rfl) (by rfl) T.m_max (by decide +kernel) (pa_cons (pv 6) pa_nil)) (pe_callB (cr_min rfl) (by rfl) T.m_min (by decide +kernel) (pa_cons (pv 6) pa_nil))) pe_int (nomark _))
      (pss_one (ps_ret pe_bl))
      pss_nil)
    (pss_one (ps_ret (pe_and (pe_cmpR op_eq (pe_ix ix_tup (pv 1) pe_int (fun _ _ => rfl)) (pe_bm PySem.F.plainAttrs_list PySem.F.slot_list_index PySem.F.type_list_index mt_index (pv 6) (pa_cons (pe_callB (cr_max rfl) (by rfl) T.m_max (by decide +kernel) (pa_cons (pv 6) pa_nil)) pa_nil)) (nomark _)) (pe_one (pe_cmpR op_eq (pe_ix ix_tup (pv 1) pe_int (fun _ _ => rfl)) (pe_bm PySem.F.plainAttrs_list PySem.F.slot_list_index PySem.F.type_list_index mt_index (pv 6) (pa_cons (pe_callB (cr_min rfl) (by rfl) T.m_min (by decide +kernel) (pa_cons (pv 6) pa_nil)) pa_nil)) (nomark _))))))))))))), ?_⟩
    have hS : SqL K H r (bs.map V.int) := SqL.of er
    have u0 : ∀ (x y z : V), atI [x, y, z] 0 = some x := fun x y z => atI_nat (j := 0) rfl
    have u1 : ∀ (x y z : V), atI [x, y, z] 1 = some y := fun x y z => atI_nat (j := 1) rfl
    have u2 : ∀ (x y z : V), atI [x, y, z] 2 = some z := fun x y z => atI_nat (j := 2) rfl
    obtain ⟨w2, wl, lt, rest⟩ := id hf
    repeat walk_at "rd"
    rw [List.length_map]
    refine rd_ixT (SqT.of et) (u0 _ _ _) ?_
    repeat walk_at "rd"
    refine rd_nay (by omega) ?_
    repeat walk_at "rd"
    refine rd_ixT (SqT.of et) (u0 _ _ _) ?_
    repeat walk_at "rd"
    refine rd_nay (by omega) ?_
    refine rd_next ?_
    dsimp only
    refine rd_cut (fun σ H' => ∃ d : Addr, σ = [some (.ref r), some (.ref t), some (.int bs.length), some (.ref d), none, none, none] ∧ Same H H' ∧ H d = none ∧ H' d = some (.lst ((headsTo (bs ++ bs) 0).map V.int))) (fun U k => ?_) ?_
    · repeat walk_at "rd"
      refine ⟨by show 1 ≤ sizeLine; decide, fun d nd => ?_⟩
      repeat walk_at "rd"
      exact k _ _ ⟨d, rfl, same_new nd, nd, upd_same⟩
    rintro σ H1 ⟨d, rfl, s1, nd, ed⟩
    refine rd_cut (fun σ H' => ∃ x4, σ = [some (.ref r), some (.ref t), some (.int bs.length), some (.ref d), x4, none, none] ∧ Same H H' ∧ H' d = some (.lst ((headsTo (bs ++ bs) (bs.length + bs.length)).map V.int))) (fun U k => ?_) ?_
    · repeat walk_at "rd"
      refine rd_cat (s1 _ _ er) (s1 _ _ er) (by rw [List.length_map]; omega) fun c nc => ?_
      rw [← List.map_append]
      have s2 := same_to (o := .lst ((bs ++ bs).map V.int)) s1 nc
      have ed2 := same_new (o := .lst ((bs ++ bs).map V.int)) nc _ _ ed
      have ec : upd H1 c (.lst ((bs ++ bs).map V.int)) c = some (.lst ((bs ++ bs).map V.int)) := upd_same
      have dc : c ≠ d := Ne.symm (ne_of_none ed nc)
      generalize upd H1 c (.lst ((bs ++ bs).map V.int)) = H2 at s2 ed2 ec ⊢
      refine ⟨c, rfl, ⟨_, SqL.of ec⟩, for_list (xs := (bs ++ bs).map V.int) (fun i σ H' => (∃ x4, σ = [some (.ref r), some (.ref t), some (.int bs.length), some (.ref d), x4, none, none]) ∧ Same H H' ∧ H' c = some (.lst ((bs ++ bs).map V.int)) ∧ H' d = some (.lst ((headsTo (bs ++ bs) i).map V.int))) ⟨⟨_, rfl⟩, s2, ec, ed2⟩ (fun i σ H' _ h' => SqL.of h'.2.2.1) ?_ ?_⟩
      · rintro i y σ H' hi ⟨⟨x4, rfl⟩, sm, ec, ed⟩
        have li : i < (bs ++ bs).length := by
          have := (List.getElem?_eq_some_iff.mp hi).1
          rw [List.length_map] at this
          exact this
        have ll : (bs ++ bs).length = bs.length + bs.length := List.length_append
        rw [int_at (nth_at li)] at hi
        cases hi
        obtain ⟨rr, hrr⟩ := headsTo_last (bs ++ bs) i
        repeat walk_at "rd"
        refine rd_tyL ed ?_
        repeat walk_at "rd"
        refine rd_ixL (SqL.of ed) (v := .int (pre (bs ++ bs) i)) (by rw [hrr, List.map_append]; exact atI_last _ _) ?_
        repeat walk_at "rd"
        refine rd_app ed (by rw [List.length_map, headsTo_len]; omega) ?_
        repeat walk_at "rd"
        refine ⟨⟨_, rfl⟩, same_put sm nd, (upd_ne dc).trans ec, ?_⟩
        rw [upd_same, headsTo_succ, List.map_append, pre_succ (nth_at li)]
        rfl
      · rintro σ H' ⟨⟨x4, rfl⟩, sm, ec, ed⟩
        rw [List.length_map, List.length_append] at ed
        exact k _ _ ⟨_, rfl, sm, ed⟩
    clear ed s1
    rintro σ H1 ⟨x4, rfl, s1, ed⟩
    have hSd : SqL K H1 d ((headsTo (bs ++ bs) (bs.length + bs.length)).map V.int) := SqL.of ed
    have et1 := s1 _ _ et
    refine rd_cut (fun σ H' => ∃ x5 x6, σ = [some (.ref r), some (.ref t), some (.int bs.length), some (.ref d), x4, x5, x6] ∧ Same H1 H') (fun U k => ?_) ?_
    · repeat walk_at "rd"
      refine rd_ixT (SqT.of et1) (u0 _ _ _) ?_
      repeat walk_at "rd"
      refine ⟨1, w, rfl, ⟨by omega, by omega, by omega, by omega⟩, ?_⟩
      rw [show ((w : Int) - 1).toNat = w - 1 by omega]
      refine for_range (lo := 1) (n := w - 1) (fun i σ H' => ∃ x5 x6, σ = [some (.ref r), some (.ref t), some (.int bs.length), some (.ref d), x4, x5, x6] ∧ Same H1 H') ⟨_, _, rfl, Same.refl _⟩ ?_ ?_
      · rintro i σ H' hi ⟨x5, x6, rfl, sm⟩
        repeat walk_at "rd"
        refine ⟨d, bs, i + 1, by rw [show (1 : Int) + (i : Int) = ((i + 1 : Nat) : Int) by omega]; rfl, sm.seq hSd, by omega, hl, fun H2 e s2 ee => ?_⟩
        have hSe : SqL K H2 e ((cntsOf bs (i + 1)).map V.int) := SqL.of ee
        have c0 : 0 < (cntsOf bs (i + 1)).length := by rw [cnts_len]; omega
        repeat walk_at "rd"
        refine rd_max hSe c0 fun mx m1 m2 => ?_
        repeat walk_at "rd"
        refine rd_minL hSe c0 fun mn k1 k2 => ?_
        repeat walk_at "rd"
        have bal : Bal bs (i + 1) := by
          by_cases c : 2 ≤ i + 1
          · exact lt _ c (by omega)
          · rw [show i + 1 = 1 by omega]
            exact bal_one hb
        have := bal_le bal m1 k1
        refine rd_nay (by omega) ?_
        repeat walk_at "rd"
        exact ⟨_, _, rfl, sm.trans s2⟩
      · rintro σ H' h'
        exact k _ _ h'
    rintro σ H2 ⟨x5, x6, rfl, s2⟩
    repeat walk_at "rd"
    refine rd_ixT (SqT.of (s2 _ _ et1)) (u0 _ _ _) ?_
    repeat walk_at "rd"
    refine ⟨d, bs, w, rfl, s2.seq hSd, by omega, hl, fun H3 e s3 ee => ?_⟩
    have hSe : SqL K H3 e ((cntsOf bs w).map V.int) := SqL.of ee
    have c0 : 0 < (cntsOf bs w).length := by rw [cnts_len]; omega
    have et3 := s3 _ _ (s2 _ _ et1)
    repeat walk_at "rd"
    refine rd_max hSe c0 fun mx m1 m2 => ?_
    repeat walk_at "rd"
    refine rd_minL hSe c0 fun mn k1 k2 => ?_
    repeat walk_at "rd"
    refine rd_splitN (fun c => absurd (by rw [fault_two hb hf m1 m2 k1 k2]) c) fun _ => ?_
    obtain ⟨mx', mn', f1, f2, g1, g2, _, em, el⟩ := rest
    repeat walk_at "rd"
    refine rd_ixT (SqT.of et3) (u1 _ _ _) ?_
    repeat walk_at "rd"
    refine rd_tyL ee ?_
    repeat walk_at "rd"
    refine rd_max hSe c0 fun mx2 m1' m2' => ?_
    repeat walk_at "rd"
    refine rd_index hSe m1' ?_
    repeat walk_at "rd"
    have e1 : mx2 = mx' := by
      have := f2 _ m1'
      have := m2' _ f1
      omega
    rw [e1, ← em, decide_eq_true rfl]
    repeat walk_at "rd"
    refine rd_ixT (SqT.of et3) (u2 _ _ _) ?_
    repeat walk_at "rd"
    refine rd_tyL ee ?_
    repeat walk_at "rd"
    refine rd_minL hSe c0 fun mn2 k1' k2' => ?_
    repeat walk_at "rd"
    refine rd_index hSe k1' ?_
    repeat walk_at "rd"
    have e2 : mn2 = mn' := by
      have := g2 _ k1'
      have := k2' _ g1
      omega
    rw [e2, ← el, decide_eq_true rfl]
    exact q H3 (s1.trans (s2.trans s3))
def sp_refused : Sp := fun vs H Q _ => ∃ (r t : Addr) (bs : List Int) (w m l : Nat), vs = [.ref r, .ref t] ∧ H r = some (.lst (bs.map V.int)) ∧ H t = some (.tup [.int w, .int m, .int l]) ∧ Bits bs ∧ 1 ≤ bs.length ∧ bs.length ≤ 120 ∧ IsFault bs w m l ∧ ∀ H', Q (.bl true) H'
theorem ok_refused (T : Txt K mg) : FnOk P w K mg base CX0 6 T.f_refused T.fd_refused ["_law_row_here", "_law_found"] sp_refused := by
  refine T.F_refused.ok sc_refused (fun vs H Q E h => ?_) (fun cdv A outer s H vs Q E hr h => ?_)
  · obtain ⟨r, t, bs, w, m, l, rfl, _⟩ := h
    rfl
  · obtain ⟨r, t, bs, w, m, l, rfl, er, et, hb, hn, hl, hf, q⟩ := h
    refine ⟨_, (pss_cons (ps_set (i := 2) sc_refused.nd rfl (Or.inl rfl) (pe_callTy call_lstL (by rfl) T.m_list (by decide +kernel) (pa_cons (pv 0) pa_nil)))
    (pss_cons (ps_set (i := 3) sc_refused.nd rfl (Or.inl rfl) pe_non)
    (pss_cons (ps_try_held (i := 4) (j := 3) rfl rfl rfl sc_refused.nd rfl rfl rfl (Or.inl rfl) (Or.inr rfl) ⟨rfl, by decide, Or.inl T.gc_BeatError⟩ (by decide) (by decide) (fun W pn xe tk _ => (pss_one (ps_expr (pe_callS (ok_start T) hr (by rfl) T.g_start T.k_start T.b_start (fun σ => passAt tk σ) (pa_cons (pv 2) pa_nil))))))
    (pss_cons (ps_if (PW.pt (pw_or (pt_not (pt_val (pe_callB call_isH (by rfl) T.m_isinstance (by decide +kernel) (pa_cons (pv 3) (pa_cons (pe_glob (v := .ref T.c_Uneven) (by rfl) T.gc_Uneven rfl) pa_nil))))) (pw_or1 (pt_not (pt_val (pe_callB call_isH (by rfl) T.m_isinstance (by decide +kernel) (pa_cons (pv 3) (pa_cons (pe_bltn (v := .ty "ValueError") (by rfl) T.m_ValueError (by decide +kernel) rfl) pa_nil))))))))
      (pss_one (ps_ret pe_bl))
      pss_nil)
    (pss_cons (ps_if (PW.pt (pw_or (pt_val (pe_callB call_isH (by rfl) T.m_isinstance (by decide +kernel) (pa_cons (pv 3) (pa_cons (pe_glob (v := .ref T.c_NoRow) (by rfl) T.gc_NoRow rfl) pa_nil)))) (pw_or (pt_val (pe_callB call_isH (by rfl) T.m_isinstance (by decide +kernel) (pa_cons (pv 3) (pa_cons (pe_glob (v := .ref T.c_NoStroke) (by rfl) T.gc_NoStroke rfl) pa_nil)))) (pw_or1 (pt_val (pe_callB call_isH (by rfl) T.m_isinstance (by decide +kernel) (pa_cons (pv 3) (pa_cons (pe_glob (v := .ref T.c_NoWheel) (by rfl) T.gc_NoWheel rfl) pa_nil))))))))
      (pss_one (ps_ret pe_bl))
      pss_nil)
    (pss_one (ps_ret (pe_and (pe_call (ok_alike T) (hr.mono (by decide)) (by rfl) T.g_alike T.k_alike T.b_alike .nil pass0 (pa_cons (pe_lst (pa_cons (pe_heldF (pv 3)) (pa_cons (pe_heldF (pv 3)) (pa_cons (pe_heldF (pv 3)) pa_nil)))) (pa_cons (pe_callTy call_lstL (by rfl) T.m_list (by decide +kernel) (pa_cons (pv 1) pa_nil)) pa_nil))) (pe_one (pe_call (ok_alike T) (hr.mono (by decide)) (by rfl) T.g_alike T.k_alike T.b_alike .nil pass0 (pa_cons (pv 2) (pa_cons (pv 0) pa_nil)))))))))))), ?_⟩
    repeat walk_at "rd"
    refine rd_lstOf (SqL.of er) fun hd nhd => ?_
    have s1 := same_new (o := .lst (bs.map V.int)) nhd
    have eh : upd H hd (.lst (bs.map V.int)) hd = some (.lst (bs.map V.int)) := upd_same
    generalize upd H hd (.lst (bs.map V.int)) = H1 at s1 eh ⊢
    repeat walk_at "rd"
    refine ⟨hd, bs, rfl, eh, hb, hn, hl, fun nf => (no_not nf hf).elim, fun w' m' l' hf' H2 d s2 ed => ⟨T.exm_Uneven, fun x nx => ?_⟩⟩
    obtain ⟨rfl, rfl, rfl⟩ := fault_one hf hf'
    have s3 := same_to (o := ExH x (.ref T.c_Uneven) (some d)) s2 nx
    have ea : upd H2 x (ExH x (.ref T.c_Uneven) (some d)) x = some (ExH x (.ref T.c_Uneven) (some d)) := upd_same
    have ed3 := same_new (o := ExH x (.ref T.c_Uneven) (some d)) nx _ _ ed
    generalize upd H2 x (ExH x (.ref T.c_Uneven) (some d)) = H3 at s3 ea ed3 ⊢
    have st : Stood H3 x T.c_Uneven (some d) := ⟨ea, fun dd e => by cases e; exact ⟨_, ed3⟩⟩
    repeat walk_at "rd"
    refine rd_isH st T.h_Uneven (.own _) T.kit_Uneven_Uneven ?_
    repeat walk_at "rd"
    refine rd_isH st T.h_Uneven (.ty _) T.ve_Uneven ?_
    repeat walk_at "rd"
    refine rd_isH st T.h_Uneven (.own _) T.kit_Uneven_NoRow ?_
    repeat walk_at "rd"
    refine rd_isH st T.h_Uneven (.own _) T.kit_Uneven_NoStroke ?_
    repeat walk_at "rd"
    refine rd_isH st T.h_Uneven (.own _) T.kit_Uneven_NoWheel ?_
    repeat walk_at "rd"
    refine rd_heldF ?_
    repeat walk_at "rd"
    refine ⟨x, _, d, _, _, rfl, ea, ed3, T.h_Uneven, T.no_Uneven_width, ufs_width, ?_⟩
    refine rd_cons ?_
    refine rd_heldF ?_
    repeat walk_at "rd"
    refine ⟨x, _, d, _, _, rfl, ea, ed3, T.h_Uneven, T.no_Uneven_most, ufs_most, ?_⟩
    refine rd_cons ?_
    refine rd_heldF ?_
    repeat walk_at "rd"
    refine ⟨x, _, d, _, _, rfl, ea, ed3, T.h_Uneven, T.no_Uneven_least, ufs_least, ?_⟩
    repeat walk_at "rd"
    refine ⟨by show 3 ≤ sizeLine; decide, fun e ne => ?_⟩
    have s4 := same_to (o := .lst [.int w, .int m, .int l]) s3 ne
    have ee : upd H3 e (.lst [.int w, .int m, .int l]) e = some (.lst (([(w : Int), (m : Int), (l : Int)] : List Int).map V.int)) := upd_same
    generalize upd H3 e (.lst [.int w, .int m, .int l]) = H4 at s4 ee ⊢
    repeat walk_at "rd"
    refine rd_lstOfT (SqT.of (s4 _ _ (s1 _ _ et))) fun f nf => ?_
    have s5 := same_to (o := .lst [.int w, .int m, .int l]) s4 nf
    have ee5 := same_new (o := .lst [.int w, .int m, .int l]) nf _ _ ee
    have ef : upd H4 f (.lst [.int w, .int m, .int l]) f = some (.lst (([(w : Int), (m : Int), (l : Int)] : List Int).map V.int)) := upd_same
    generalize upd H4 f (.lst [.int w, .int m, .int l]) = H5 at s5 ee5 ef ⊢
    repeat walk_at "rd"
    refine ⟨e, f, _, rfl, ee5, ef, fun H6 s6 => ?_⟩
    repeat walk_at "rd"
    refine ⟨hd, r, bs, rfl, s6 _ _ (s5 _ _ eh), s6 _ _ (s5 _ _ (s1 _ _ er)), fun H7 s7 => ?_⟩
    exact q H7
/-! ### the law -/
def sp_law (K : PySem.W.Frag) : Sp := fun vs H Q _ => ∃ (a : Addr) (ns : List Int), vs = [.ref a] ∧ SqL K H a (ns.map V.int) ∧ ns.length ≤ 63 ∧ ∀ H', Q (.bl true) H'
theorem ok_law (T : Txt K mg) {fa : Addr} {fda : FuncData} (FL : Fun K "law" "law" s_law fa fda) : FnOk P w K mg base CX0 7 fa fda ["_law_script"] (sp_law K) := by
  refine FL.ok sc_law (fun vs H Q E h => ?_) (fun cdv A outer s H vs Q E hr h => ?_)
  · obtain ⟨a, ns, rfl, _⟩ := h
    rfl
  · obtain ⟨a, ns, rfl, hS, hlen, q⟩ := h
    refine ⟨_, (pss_cons (ps_set (i := 1) sc_law.nd rfl (Or.inl rfl) (pe_call (ok_row T) (hr.mono (by decide)) (by rfl) T.g_row T.k_row T.b_row .nil pass0 (pa_cons (pv 0) pa_nil)))
    (pss_cons (ps_set (i := 2) sc_law.nd rfl (Or.inl rfl) (pe_callTy call_lstL (by rfl) T.m_list (by decide +kernel) (pa_cons (pv 1) pa_nil)))
    (pss_cons (ps_if (pt_not (pt_val (pe_call (ok_own T) (hr.mono (by decide)) (by rfl) T.g_own T.k_own T.b_own .nil pass0 (pa_cons (pe_call (ok_cell_at T) (hr.mono (by decide)) (by rfl) T.g_cell_at T.k_cell_at T.b_cell_at .nil pass0 (pa_cons (pv 0) (pa_cons pe_int pa_nil))) pa_nil))))
      (pss_one (ps_ret pe_bl))
      pss_nil)
    (pss_cons (ps_set (i := 3) sc_law.nd rfl (Or.inl rfl) (pe_call (ok_fault T) (hr.mono (by decide)) (by rfl) T.g_fault T.k_fault T.b_fault .nil pass0 (pa_cons (pv 2) pa_nil)))
    (pss_cons (ps_if (pt_not (pt_val (pe_call (ok_alike T) (hr.mono (by decide)) (by rfl) T.g_alike T.k_alike T.b_alike .nil pass0 (pa_cons (pv 2) (pa_cons (pv 1) pa_nil)))))
      (pss_one (ps_ret pe_bl))
      pss_nil)
    (pss_cons (ps_if (pt_cmpR opIsN (pv 3) pe_non (nomark _))
      (pss_one (ps_ret (pe_call (ok_even T) hr (by rfl) T.g_even T.k_even T.b_even .nil pass0 (pa_cons (pv 1) pa_nil))))
      pss_nil)
    (pss_cons (ps_if (PW.pt (pw_or (pt_not (pt_val (pe_callB call_isi (by rfl) T.m_isinstance (by decide +kernel) (pa_cons (pv 3) (pa_cons (pe_bltn (v := .ty "tuple") (by rfl) T.m_tuple (by decide +kernel) rfl) pa_nil))))) (pw_or1 (pt_cmpR op_ne (pe_callB call_lenL (by rfl) T.m_len PySem.boot_len (pa_cons (pv 3) pa_nil)) pe_int (nomark _)))))
      (pss_one (ps_ret pe_bl))
      pss_nil)
    (pss_cons (ps_for PassesOwn.never rfl (pi_tup (pv 3)) (pg_name (i := 4) sc_law.nd rfl (Or.inl rfl))
      (pss_one (ps_if (pt_not (pt_val (pe_call (ok_whole T) (hr.mono (by decide)) (by rfl) T.g_whole T.k_whole T.b_whole .nil pass0 (pa_cons (pv 4) pa_nil))))
        (pss_one (ps_ret pe_bl))
        pss_nil)))
    (pss_one (ps_ret (pe_and (pe_call (ok_own_fault T) (hr.mono (by decide)) (by rfl) T.g_own_fault T.k_own_fault T.b_own_fault .nil pass0 (pa_cons (pv 1) (pa_cons (pv 3) pa_nil))) (pe_one (pe_call (ok_refused T) hr (by rfl) T.g_refused T.k_refused T.b_refused .nil pass0 (pa_cons (pv 1) (pa_cons (pv 3) pa_nil))))))))))))))), ?_⟩
    repeat walk_at "rd"
    refine ⟨a, ns, rfl, hS, hlen, fun H1 r bs s1 er hb hn hl => ?_⟩
    repeat walk_at "rd"
    refine rd_lstOf (SqL.of er) fun hd nhd => ?_
    have s2 := same_to (o := .lst (bs.map V.int)) s1 nhd
    have er2 := same_new (o := .lst (bs.map V.int)) nhd _ _ er
    have eh : upd H1 hd (.lst (bs.map V.int)) hd = some (.lst (bs.map V.int)) := upd_same
    generalize upd H1 hd (.lst (bs.map V.int)) = H2 at s2 er2 eh ⊢
    repeat walk_at "rd"
    refine ⟨a, ns, 0, rfl, s2.seq hS, ?_⟩
    repeat walk_at "rd"
    refine ⟨_, rfl, fun H3 s3 => ?_⟩
    repeat walk_at "rd"
    refine ⟨hd, bs, rfl, s3 _ _ eh, hl, fun nf H4 s4 => ?_, fun w m l hf H4 t s4 et => ?_⟩
    · have s34 := s3.trans s4
      repeat walk_at "rd"
      refine ⟨hd, r, bs, rfl, s34 _ _ eh, s34 _ _ er2, fun H5 s5 => ?_⟩
      repeat walk_at "rd"
      refine ⟨r, bs, rfl, s5 _ _ (s34 _ _ er2), hb, hn, hl, nf, fun H6 => ?_⟩
      exact q H6
    · have s34 := s3.trans s4
      repeat walk_at "rd"
      refine ⟨hd, r, bs, rfl, s34 _ _ eh, s34 _ _ er2, fun H5 s5 => ?_⟩
      have et5 := s5 _ _ et
      have hT : SqT K H5 t [.int w, .int m, .int l] := SqT.of et5
      repeat walk_at "rd"
      refine rd_splitN (fun c => absurd rfl c) fun _ => ?_
      repeat walk_at "rd"
      refine rd_it ?_
      repeat walk_at "rd"
      refine ⟨t, rfl, ⟨_, hT⟩, for_tup (xs := [.int w, .int m, .int l]) (fun i σ H' => (∃ x4, σ = [some (.ref a), some (.ref r), some (.ref hd), some (.ref t), x4]) ∧ H5 = H') ⟨⟨_, rfl⟩, rfl⟩ (fun i σ H' _ h' => by rw [← h'.2]; exact hT) ?_ ?_⟩
      · rintro i y σ H' hi ⟨⟨x4, rfl⟩, rfl⟩
        obtain ⟨z, rfl⟩ : ∃ z : Int, y = .int z := by
          have := List.mem_of_getElem? hi
          simp only [List.mem_cons, List.not_mem_nil, or_false] at this
          rcases this with e | e | e <;> exact ⟨_, e⟩
        repeat walk_at "rd"
        refine ⟨z, rfl, ?_⟩
        repeat walk_at "rd"
        exact ⟨⟨_, rfl⟩, rfl⟩
      · rintro σ H' ⟨⟨x4, rfl⟩, rfl⟩
        repeat walk_at "rd"
        refine ⟨r, t, bs, w, m, l, rfl, s5 _ _ (s34 _ _ er2), et5, hb, hn, hl, hf, fun H6 s6 => ?_⟩
        repeat walk_at "rd"
        refine ⟨r, t, bs, w, m, l, rfl, s6 _ _ (s5 _ _ (s34 _ _ er2)), s6 _ _ et5, hb, hn, hl, hf, fun H7 => ?_⟩
        exact q H7
end
/-! ### what the top has written -/
theorem all_mk {l : PySem.W.OpenLaw} {w : World} {K : PySem.W.Frag} {h : Heap} {mg : Str → Option Value} {fa : Addr} (X : K.In h) (G : h.Ns mainGlobals mg) (hfa : mg "law" = some (.ref fa))
    {f1 : Addr} {od1 an1 : Option Addr} {sl1 : Array (Option Value)} {oc1 kV1 dc1 pm1 cd1 ct1 : Value}
    {f2 : Addr} {od2 an2 : Option Addr} {sl2 : Array (Option Value)} {oc2 kV2 dc2 pm2 cd2 ct2 : Value}
    {f3 : Addr} {od3 an3 : Option Addr} {sl3 : Array (Option Value)} {oc3 kV3 dc3 pm3 cd3 ct3 : Value}
    {f4 : Addr} {od4 an4 : Option Addr} {sl4 : Array (Option Value)} {oc4 kV4 dc4 pm4 cd4 ct4 : Value}
    {f5 : Addr} {od5 an5 : Option Addr} {sl5 : Array (Option Value)} {oc5 kV5 dc5 pm5 cd5 ct5 : Value}
    {f6 : Addr} {od6 an6 : Option Addr} {sl6 : Array (Option Value)} {oc6 kV6 dc6 pm6 cd6 ct6 : Value}
    {f7 : Addr} {od7 an7 : Option Addr} {sl7 : Array (Option Value)} {oc7 kV7 dc7 pm7 cd7 ct7 : Value}
    {f8 : Addr} {od8 an8 : Option Addr} {sl8 : Array (Option Value)} {oc8 dV8 kV8 dc8 pm8 cd8 ct8 : Value}
    {td8 : Addr} {to8 : Obj} {ti8 : Tok}
    {f9 : Addr} {od9 an9 : Option Addr} {sl9 : Array (Option Value)} {oc9 kV9 dc9 pm9 cd9 ct9 : Value}
    {f10 : Addr} {od10 an10 : Option Addr} {sl10 : Array (Option Value)} {oc10 kV10 dc10 pm10 cd10 ct10 : Value}
    {f11 : Addr} {od11 an11 : Option Addr} {sl11 : Array (Option Value)} {oc11 kV11 dc11 pm11 cd11 ct11 : Value}
    {f12 : Addr} {od12 an12 : Option Addr} {sl12 : Array (Option Value)} {oc12 kV12 dc12 pm12 cd12 ct12 : Value}
    {f13 : Addr} {od13 an13 : Option Addr} {sl13 : Array (Option Value)} {oc13 kV13 dc13 pm13 cd13 ct13 : Value}
    {f14 : Addr} {od14 an14 : Option Addr} {sl14 : Array (Option Value)} {oc14 kV14 dc14 pm14 cd14 ct14 : Value}
    {f15 : Addr} {od15 an15 : Option Addr} {sl15 : Array (Option Value)} {oc15 kV15 dc15 pm15 cd15 ct15 : Value}
    {f16 : Addr} {od16 an16 : Option Addr} {sl16 : Array (Option Value)} {oc16 kV16 dc16 pm16 cd16 ct16 : Value}
    {f17 : Addr} {od17 an17 : Option Addr} {sl17 : Array (Option Value)} {oc17 kV17 dc17 pm17 cd17 ct17 : Value}
    {f18 : Addr} {od18 an18 : Option Addr} {sl18 : Array (Option Value)} {oc18 kV18 dc18 pm18 cd18 ct18 : Value}
    {f19 : Addr} {od19 an19 : Option Addr} {sl19 : Array (Option Value)} {oc19 kV19 dc19 pm19 cd19 ct19 : Value}
    {f20 : Addr} {od20 an20 : Option Addr} {sl20 : Array (Option Value)} {oc20 kV20 dc20 pm20 cd20 ct20 : Value}
    {f21 : Addr} {od21 an21 : Option Addr} {sl21 : Array (Option Value)} {oc21 kV21 dc21 pm21 cd21 ct21 : Value}
    {f22 : Addr} {od22 an22 : Option Addr} {sl22 : Array (Option Value)} {oc22 kV22 dc22 pm22 cd22 ct22 : Value}
    {tk_LONGEST : Tok}
    {C_BeatError : Addr}
    {C_NoWheel : Addr}
    {C_NoStroke : Addr}
    {C_NoRow : Addr}
    {C_Uneven : Addr}
    {fI_Uneven nsI_Uneven : Addr} {odI_Uneven anI_Uneven : Option Addr} {slI_Uneven : Array (Option Value)} {ocI_Uneven kVI_Uneven dcI_Uneven pmI_Uneven cdI_Uneven ctI_Uneven : Value} {nmI_Uneven qI_Uneven : Str} {bsI_Uneven : List Value} {snI_Uneven : List Str} {subI_Uneven : List Value} {abI_Uneven : Bool} {colI_Uneven : Option Bool} {ddI_Uneven : Option Addr} {m0I_Uneven m1I_Uneven m2I_Uneven m3I_Uneven m5I_Uneven : Option Value}
    (a1 : PySem.W.nsIn K mainGlobals "look_at_wheel" = some (some (.ref f1)))
    (l1 : K.lookup f1 = some ⟨oc1, od1, .func (PySem.W.fnOf "look_at_wheel" "look_at_wheel" (defArgs s_look_at_wheel) (defBody s_look_at_wheel) (defScope s_look_at_wheel) .none kV1 dc1 pm1 an1 cd1 ct1), sl1⟩)
    (c1 : PySem.W.codeIn K cd1 "look_at_wheel" = true)
    (k1 : PySem.W.keepIn K (.ref f1) = true)
    (a2 : PySem.W.nsIn K mainGlobals "look_at_row" = some (some (.ref f2)))
    (l2 : K.lookup f2 = some ⟨oc2, od2, .func (PySem.W.fnOf "look_at_row" "look_at_row" (defArgs s_look_at_row) (defBody s_look_at_row) (defScope s_look_at_row) .none kV2 dc2 pm2 an2 cd2 ct2), sl2⟩)
    (c2 : PySem.W.codeIn K cd2 "look_at_row" = true)
    (k2 : PySem.W.keepIn K (.ref f2) = true)
    (a3 : PySem.W.nsIn K mainGlobals "ahead" = some (some (.ref f3)))
    (l3 : K.lookup f3 = some ⟨oc3, od3, .func (PySem.W.fnOf "ahead" "ahead" (defArgs s_ahead) (defBody s_ahead) (defScope s_ahead) .none kV3 dc3 pm3 an3 cd3 ct3), sl3⟩)
    (c3 : PySem.W.codeIn K cd3 "ahead" = true)
    (k3 : PySem.W.keepIn K (.ref f3) = true)
    (a4 : PySem.W.nsIn K mainGlobals "has_stroke" = some (some (.ref f4)))
    (l4 : K.lookup f4 = some ⟨oc4, od4, .func (PySem.W.fnOf "has_stroke" "has_stroke" (defArgs s_has_stroke) (defBody s_has_stroke) (defScope s_has_stroke) .none kV4 dc4 pm4 an4 cd4 ct4), sl4⟩)
    (c4 : PySem.W.codeIn K cd4 "has_stroke" = true)
    (k4 : PySem.W.keepIn K (.ref f4) = true)
    (a5 : PySem.W.nsIn K mainGlobals "laid" = some (some (.ref f5)))
    (l5 : K.lookup f5 = some ⟨oc5, od5, .func (PySem.W.fnOf "laid" "laid" (defArgs s_laid) (defBody s_laid) (defScope s_laid) .none kV5 dc5 pm5 an5 cd5 ct5), sl5⟩)
    (c5 : PySem.W.codeIn K cd5 "laid" = true)
    (k5 : PySem.W.keepIn K (.ref f5) = true)
    (a6 : PySem.W.nsIn K mainGlobals "counts" = some (some (.ref f6)))
    (l6 : K.lookup f6 = some ⟨oc6, od6, .func (PySem.W.fnOf "counts" "counts" (defArgs s_counts) (defBody s_counts) (defScope s_counts) .none kV6 dc6 pm6 an6 cd6 ct6), sl6⟩)
    (c6 : PySem.W.codeIn K cd6 "counts" = true)
    (k6 : PySem.W.keepIn K (.ref f6) = true)
    (a7 : PySem.W.nsIn K mainGlobals "fault" = some (some (.ref f7)))
    (l7 : K.lookup f7 = some ⟨oc7, od7, .func (PySem.W.fnOf "fault" "fault" (defArgs s_fault) (defBody s_fault) (defScope s_fault) .none kV7 dc7 pm7 an7 cd7 ct7), sl7⟩)
    (c7 : PySem.W.codeIn K cd7 "fault" = true)
    (k7 : PySem.W.keepIn K (.ref f7) = true)
    (a8 : PySem.W.nsIn K mainGlobals "turned" = some (some (.ref f8)))
    (l8 : K.lookup f8 = some ⟨oc8, od8, .func (PySem.W.fnOf "turned" "turned" (defArgs s_turned) (defBody s_turned) (defScope s_turned) dV8 kV8 dc8 pm8 an8 cd8 ct8), sl8⟩)
    (c8 : PySem.W.codeIn K cd8 "turned" = true)
    (k8 : PySem.W.keepIn K (.ref f8) = true)
    (d8 : dV8 = .ref td8 ∧ K.lookup td8 = some to8 ∧ ∃ nn, to8.data = .seq #[.int 1 ti8] nn)
    (a9 : PySem.W.nsIn K mainGlobals "start" = some (some (.ref f9)))
    (l9 : K.lookup f9 = some ⟨oc9, od9, .func (PySem.W.fnOf "start" "start" (defArgs s_start) (defBody s_start) (defScope s_start) .none kV9 dc9 pm9 an9 cd9 ct9), sl9⟩)
    (c9 : PySem.W.codeIn K cd9 "start" = true)
    (k9 : PySem.W.keepIn K (.ref f9) = true)
    (a10 : PySem.W.nsIn K mainGlobals "_law_cell_at" = some (some (.ref f10)))
    (l10 : K.lookup f10 = some ⟨oc10, od10, .func (PySem.W.fnOf "_law_cell_at" "_law_cell_at" (defArgs s_cell_at) (defBody s_cell_at) (defScope s_cell_at) .none kV10 dc10 pm10 an10 cd10 ct10), sl10⟩)
    (c10 : PySem.W.codeIn K cd10 "_law_cell_at" = true)
    (k10 : PySem.W.keepIn K (.ref f10) = true)
    (a11 : PySem.W.nsIn K mainGlobals "_law_whole" = some (some (.ref f11)))
    (l11 : K.lookup f11 = some ⟨oc11, od11, .func (PySem.W.fnOf "_law_whole" "_law_whole" (defArgs s_whole) (defBody s_whole) (defScope s_whole) .none kV11 dc11 pm11 an11 cd11 ct11), sl11⟩)
    (c11 : PySem.W.codeIn K cd11 "_law_whole" = true)
    (k11 : PySem.W.keepIn K (.ref f11) = true)
    (a12 : PySem.W.nsIn K mainGlobals "_law_alike" = some (some (.ref f12)))
    (l12 : K.lookup f12 = some ⟨oc12, od12, .func (PySem.W.fnOf "_law_alike" "_law_alike" (defArgs s_alike) (defBody s_alike) (defScope s_alike) .none kV12 dc12 pm12 an12 cd12 ct12), sl12⟩)
    (c12 : PySem.W.codeIn K cd12 "_law_alike" = true)
    (k12 : PySem.W.keepIn K (.ref f12) = true)
    (a13 : PySem.W.nsIn K mainGlobals "_law_sums_row" = some (some (.ref f13)))
    (l13 : K.lookup f13 = some ⟨oc13, od13, .func (PySem.W.fnOf "_law_sums_row" "_law_sums_row" (defArgs s_sums_row) (defBody s_sums_row) (defScope s_sums_row) .none kV13 dc13 pm13 an13 cd13 ct13), sl13⟩)
    (c13 : PySem.W.codeIn K cd13 "_law_sums_row" = true)
    (k13 : PySem.W.keepIn K (.ref f13) = true)
    (a14 : PySem.W.nsIn K mainGlobals "_law_changed" = some (some (.ref f14)))
    (l14 : K.lookup f14 = some ⟨oc14, od14, .func (PySem.W.fnOf "_law_changed" "_law_changed" (defArgs s_changed) (defBody s_changed) (defScope s_changed) .none kV14 dc14 pm14 an14 cd14 ct14), sl14⟩)
    (c14 : PySem.W.codeIn K cd14 "_law_changed" = true)
    (k14 : PySem.W.keepIn K (.ref f14) = true)
    (a15 : PySem.W.nsIn K mainGlobals "_law_made" = some (some (.ref f15)))
    (l15 : K.lookup f15 = some ⟨oc15, od15, .func (PySem.W.fnOf "_law_made" "_law_made" (defArgs s_made) (defBody s_made) (defScope s_made) .none kV15 dc15 pm15 an15 cd15 ct15), sl15⟩)
    (c15 : PySem.W.codeIn K cd15 "_law_made" = true)
    (k15 : PySem.W.keepIn K (.ref f15) = true)
    (a16 : PySem.W.nsIn K mainGlobals "_law_row" = some (some (.ref f16)))
    (l16 : K.lookup f16 = some ⟨oc16, od16, .func (PySem.W.fnOf "_law_row" "_law_row" (defArgs s_row) (defBody s_row) (defScope s_row) .none kV16 dc16 pm16 an16 cd16 ct16), sl16⟩)
    (c16 : PySem.W.codeIn K cd16 "_law_row" = true)
    (k16 : PySem.W.keepIn K (.ref f16) = true)
    (a17 : PySem.W.nsIn K mainGlobals "_law_even" = some (some (.ref f17)))
    (l17 : K.lookup f17 = some ⟨oc17, od17, .func (PySem.W.fnOf "_law_even" "_law_even" (defArgs s_even) (defBody s_even) (defScope s_even) .none kV17 dc17 pm17 an17 cd17 ct17), sl17⟩)
    (c17 : PySem.W.codeIn K cd17 "_law_even" = true)
    (k17 : PySem.W.keepIn K (.ref f17) = true)
    (a18 : PySem.W.nsIn K mainGlobals "_law_counts" = some (some (.ref f18)))
    (l18 : K.lookup f18 = some ⟨oc18, od18, .func (PySem.W.fnOf "_law_counts" "_law_counts" (defArgs s_own_counts) (defBody s_own_counts) (defScope s_own_counts) .none kV18 dc18 pm18 an18 cd18 ct18), sl18⟩)
    (c18 : PySem.W.codeIn K cd18 "_law_counts" = true)
    (k18 : PySem.W.keepIn K (.ref f18) = true)
    (a19 : PySem.W.nsIn K mainGlobals "_law_fault" = some (some (.ref f19)))
    (l19 : K.lookup f19 = some ⟨oc19, od19, .func (PySem.W.fnOf "_law_fault" "_law_fault" (defArgs s_own_fault) (defBody s_own_fault) (defScope s_own_fault) .none kV19 dc19 pm19 an19 cd19 ct19), sl19⟩)
    (c19 : PySem.W.codeIn K cd19 "_law_fault" = true)
    (k19 : PySem.W.keepIn K (.ref f19) = true)
    (a20 : PySem.W.nsIn K mainGlobals "_law_refused" = some (some (.ref f20)))
    (l20 : K.lookup f20 = some ⟨oc20, od20, .func (PySem.W.fnOf "_law_refused" "_law_refused" (defArgs s_refused) (defBody s_refused) (defScope s_refused) .none kV20 dc20 pm20 an20 cd20 ct20), sl20⟩)
    (c20 : PySem.W.codeIn K cd20 "_law_refused" = true)
    (k20 : PySem.W.keepIn K (.ref f20) = true)
    (a21 : PySem.W.nsIn K mainGlobals "_law_own" = some (some (.ref f21)))
    (l21 : K.lookup f21 = some ⟨oc21, od21, .func (PySem.W.fnOf "_law_own" "_law_own" (defArgs s_own) (defBody s_own) (defScope s_own) .none kV21 dc21 pm21 an21 cd21 ct21), sl21⟩)
    (c21 : PySem.W.codeIn K cd21 "_law_own" = true)
    (k21 : PySem.W.keepIn K (.ref f21) = true)
    (a22 : PySem.W.nsIn K mainGlobals "law" = some (some (.ref f22)))
    (l22 : K.lookup f22 = some ⟨oc22, od22, .func (PySem.W.fnOf "law" "law" (defArgs s_law) (defBody s_law) (defScope s_law) .none kV22 dc22 pm22 an22 cd22 ct22), sl22⟩)
    (c22 : PySem.W.codeIn K cd22 "law" = true)
    (k22 : PySem.W.keepIn K (.ref f22) = true)
    (z_range : PySem.W.nsIn K mainGlobals "range" = some none)
    (z_int : PySem.W.nsIn K mainGlobals "int" = some none)
    (z_len : PySem.W.nsIn K mainGlobals "len" = some none)
    (z_sum : PySem.W.nsIn K mainGlobals "sum" = some none)
    (z_max : PySem.W.nsIn K mainGlobals "max" = some none)
    (z_min : PySem.W.nsIn K mainGlobals "min" = some none)
    (z_isinstance : PySem.W.nsIn K mainGlobals "isinstance" = some none)
    (z_bool : PySem.W.nsIn K mainGlobals "bool" = some none)
    (z_zip : PySem.W.nsIn K mainGlobals "zip" = some none)
    (z_list : PySem.W.nsIn K mainGlobals "list" = some none)
    (z_ValueError : PySem.W.nsIn K mainGlobals "ValueError" = some none)
    (z_tuple : PySem.W.nsIn K mainGlobals "tuple" = some none)
    (v_LONGEST : PySem.W.nsIn K mainGlobals "LONGEST" = some (some (.int 120 tk_LONGEST)))
    (aC_BeatError : PySem.W.nsIn K mainGlobals "BeatError" = some (some (.ref C_BeatError)))
    (iC_BeatError : PySem.W.isClsIn K C_BeatError = true)
    (tC_BeatError : PySem.W.typeIn K (.ref C_BeatError) = some (.type "type"))
    (bC_BeatError : PySem.W.subIn K (.ref C_BeatError) (.type "BaseException") = some true)
    (aC_NoWheel : PySem.W.nsIn K mainGlobals "NoWheel" = some (some (.ref C_NoWheel)))
    (iC_NoWheel : PySem.W.isClsIn K C_NoWheel = true)
    (tC_NoWheel : PySem.W.typeIn K (.ref C_NoWheel) = some (.type "type"))
    (bC_NoWheel : PySem.W.subIn K (.ref C_NoWheel) (.type "BaseException") = some true)
    (aC_NoStroke : PySem.W.nsIn K mainGlobals "NoStroke" = some (some (.ref C_NoStroke)))
    (iC_NoStroke : PySem.W.isClsIn K C_NoStroke = true)
    (tC_NoStroke : PySem.W.typeIn K (.ref C_NoStroke) = some (.type "type"))
    (bC_NoStroke : PySem.W.subIn K (.ref C_NoStroke) (.type "BaseException") = some true)
    (aC_NoRow : PySem.W.nsIn K mainGlobals "NoRow" = some (some (.ref C_NoRow)))
    (iC_NoRow : PySem.W.isClsIn K C_NoRow = true)
    (tC_NoRow : PySem.W.typeIn K (.ref C_NoRow) = some (.type "type"))
    (bC_NoRow : PySem.W.subIn K (.ref C_NoRow) (.type "BaseException") = some true)
    (aC_Uneven : PySem.W.nsIn K mainGlobals "Uneven" = some (some (.ref C_Uneven)))
    (iC_Uneven : PySem.W.isClsIn K C_Uneven = true)
    (tC_Uneven : PySem.W.typeIn K (.ref C_Uneven) = some (.type "type"))
    (bC_Uneven : PySem.W.subIn K (.ref C_Uneven) (.type "BaseException") = some true)
    (x_NoWheel : PySem.W.excIn K C_NoWheel [.type "ValueError", .type "Exception", .type "BaseException", .type "object"] "ValueError.__new__" = true)
    (kc_NoWheel : PySem.W.keepIn K (.ref C_NoWheel) = true)
    (sub_NoWheel : PySem.W.subIn K (.ref C_NoWheel) (.type "BaseException") = some true)
    (ty_NoWheel : PySem.W.typeIn K (.ref C_NoWheel) = some (.type "type"))
    (hn0 : PySem.W.specialIn K (.builtin "object.__class__") "__get__" = some (some (.builtin "getset_descriptor.__get__")))
    (ht0 : PySem.W.takesIn K (.builtin "object.__class__") = some true)
    (hc_Uneven : PySem.W.isClsIn K C_Uneven = true)
    (hg_Uneven : PySem.W.findIn K (.ref C_Uneven) "__getattribute__" = some (some (.builtin "BaseException.__getattribute__")))
    (hk_Uneven : PySem.W.findIn K (.ref C_Uneven) "__getattr__" = some none)
    (hs_Uneven : PySem.W.subIn K (.ref C_Uneven) (.type "BaseException") = some true)
    (ha_Uneven : PySem.W.findIn K (.ref C_Uneven) "__class__" = some (some (.builtin "object.__class__")))
    (hm_Uneven : PySem.W.mroIn K C_Uneven (.type "object") = some true)
    (hd_Uneven : PySem.W.hasDictIn K C_Uneven = true)
    (sVE_Uneven : PySem.W.subIn K (.ref C_Uneven) (.type "ValueError") = some true)
    (s_Uneven_BeatError : PySem.W.subIn K (.ref C_Uneven) (.ref C_BeatError) = some true)
    (n_Uneven_BeatError : (C_Uneven == C_BeatError) = false)
    (s_Uneven_NoWheel : PySem.W.subIn K (.ref C_Uneven) (.ref C_NoWheel) = some false)
    (n_Uneven_NoWheel : (C_Uneven == C_NoWheel) = false)
    (s_Uneven_NoStroke : PySem.W.subIn K (.ref C_Uneven) (.ref C_NoStroke) = some false)
    (n_Uneven_NoStroke : (C_Uneven == C_NoStroke) = false)
    (s_Uneven_NoRow : PySem.W.subIn K (.ref C_Uneven) (.ref C_NoRow) = some false)
    (n_Uneven_NoRow : (C_Uneven == C_NoRow) = false)
    (xL_Uneven : K.lookup C_Uneven = some (excClassObj nmI_Uneven qI_Uneven C_Uneven nsI_Uneven bsI_Uneven [.ref C_BeatError, .type "ValueError", .type "Exception", .type "BaseException", .type "object"] true snI_Uneven subI_Uneven abI_Uneven colI_Uneven ddI_Uneven m0I_Uneven m1I_Uneven m2I_Uneven m3I_Uneven m5I_Uneven "ValueError.__new__"))
    (saI_Uneven : PySem.W.findIn K (.ref C_Uneven) "__setattr__" = some (some (.builtin "object.__setattr__")))
    (kcI_Uneven : PySem.W.keepIn K (.ref C_Uneven) = true)
    (aI_Uneven : PySem.W.findIn K (.ref C_Uneven) "__init__" = some (some (.ref fI_Uneven)))
    (tI_Uneven : PySem.W.typeIn K (.ref fI_Uneven) = some (.type "function"))
    (lI_Uneven : K.lookup fI_Uneven = some ⟨ocI_Uneven, odI_Uneven, .func (PySem.W.fnOf "__init__" "Uneven.__init__" (defArgs s_init_Uneven) (defBody s_init_Uneven) (defScope s_init_Uneven) .none kVI_Uneven dcI_Uneven pmI_Uneven anI_Uneven cdI_Uneven ctI_Uneven), slI_Uneven⟩)
    (cI_Uneven : PySem.W.codeIn K cdI_Uneven "Uneven.__init__" = true)
    (kI_Uneven : PySem.W.keepIn K (.ref fI_Uneven) = true)
    (no_Uneven_width : PySem.W.findIn K (.ref C_Uneven) "width" = some none)
    (no_Uneven_most : PySem.W.findIn K (.ref C_Uneven) "most" = some none)
    (no_Uneven_least : PySem.W.findIn K (.ref C_Uneven) "least" = some none)
    : ∃ fd : FuncData, (∀ (s : Shared) (v : Value), BindsTo s fd ⟨[v], []⟩ [("_law_script", v)]) ∧ ∀ base : Heap, K.In base → base.Ns mainGlobals mg → FnOk l.prog w K mg base CX0 7 fa fd ["_law_script"] (sp_law K) := by
  have e := hfa.symm.trans (PySem.W.mg_of X G a22)
  cases e
  have F1 := fun_mk (st := s_look_at_wheel) l1 c1 k1
  have F2 := fun_mk (st := s_look_at_row) l2 c2 k2
  have F3 := fun_mk (st := s_ahead) l3 c3 k3
  have F4 := fun_mk (st := s_has_stroke) l4 c4 k4
  have F5 := fun_mk (st := s_laid) l5 c5 k5
  have F6 := fun_mk (st := s_counts) l6 c6 k6
  have F7 := fun_mk (st := s_fault) l7 c7 k7
  obtain ⟨e8, dl8, nn8, dd8⟩ := d8
  have F8 : FunD K "turned" "turned" (defArgs s_turned) (defBody s_turned) (defScope s_turned) [V.int 1] [] f8 (PySem.W.fnOf "turned" "turned" (defArgs s_turned) (defBody s_turned) (defScope s_turned) dV8 kV8 dc8 pm8 an8 cd8 ct8) := ⟨⟨oc8, od8, dV8, kV8, dc8, pm8, an8, cd8, ct8, sl8, rfl, l8, c8, .inr ⟨by simp, td8, to8, [.int 1 ti8], nn8, e8, dl8, dd8, .cons ⟨_, rfl⟩ .nil⟩, .inl rfl⟩, k8⟩
  obtain ⟨ds8, vd8, bd8⟩ := F8.binds1 (ps := ["row", "by"]) 1 0 (by simp) rfl (fun Tt kV doc pm an cdv ct us its hl hi => ⟨_, rfl, match us, its, hl, hi with | [_], [_], _, _ => rfl⟩)
  obtain ⟨db8, vb8, bb8⟩ := F8.binds1 (ps := ["row", "by"]) 2 1 (by simp) rfl (fun Tt kV doc pm an cdv ct us its hl hi => ⟨_, rfl, match us, its, hl, hi with | [_, _], [_], _, _ => rfl⟩)
  have vb8 : Vals [] db8 := vb8
  cases vb8
  have F9 := fun_mk (st := s_start) l9 c9 k9
  have F10 := fun_mk (st := s_cell_at) l10 c10 k10
  have F11 := fun_mk (st := s_whole) l11 c11 k11
  have F12 := fun_mk (st := s_alike) l12 c12 k12
  have F13 := fun_mk (st := s_sums_row) l13 c13 k13
  have F14 := fun_mk (st := s_changed) l14 c14 k14
  have F15 := fun_mk (st := s_made) l15 c15 k15
  have F16 := fun_mk (st := s_row) l16 c16 k16
  have F17 := fun_mk (st := s_even) l17 c17 k17
  have F18 := fun_mk (st := s_own_counts) l18 c18 k18
  have F19 := fun_mk (st := s_own_fault) l19 c19 k19
  have F20 := fun_mk (st := s_refused) l20 c20 k20
  have F21 := fun_mk (st := s_own) l21 c21 k21
  have F22 := fun_mk (st := s_law) l22 c22 k22
  have FI_Uneven := fun_mk (st := s_init_Uneven) lI_Uneven cI_Uneven kI_Uneven
  have T : Txt K mg := {
    f_look_at_wheel := f1, fd_look_at_wheel := _, F_look_at_wheel := F1, k_look_at_wheel := k1, g_look_at_wheel := PySem.W.mg_of X G a1, b_look_at_wheel := F1.binds (ps := ["strokes", "places"]) (fun _ _ _ _ _ _ us hl => match us, hl with | [_, _], _ => rfl),
    f_look_at_row := f2, fd_look_at_row := _, F_look_at_row := F2, k_look_at_row := k2, g_look_at_row := PySem.W.mg_of X G a2, b_look_at_row := F2.binds (ps := ["strokes", "places"]) (fun _ _ _ _ _ _ us hl => match us, hl with | [_, _], _ => rfl),
    f_ahead := f3, fd_ahead := _, F_ahead := F3, k_ahead := k3, g_ahead := PySem.W.mg_of X G a3, b_ahead := F3.binds (ps := ["strokes", "places", "at"]) (fun _ _ _ _ _ _ us hl => match us, hl with | [_, _, _], _ => rfl),
    f_has_stroke := f4, fd_has_stroke := _, F_has_stroke := F4, k_has_stroke := k4, g_has_stroke := PySem.W.mg_of X G a4, b_has_stroke := F4.binds (ps := ["strokes", "places", "at"]) (fun _ _ _ _ _ _ us hl => match us, hl with | [_, _, _], _ => rfl),
    f_laid := f5, fd_laid := _, F_laid := F5, k_laid := k5, g_laid := PySem.W.mg_of X G a5, b_laid := F5.binds (ps := ["strokes", "places"]) (fun _ _ _ _ _ _ us hl => match us, hl with | [_, _], _ => rfl),
    f_counts := f6, fd_counts := _, F_counts := F6, k_counts := k6, g_counts := PySem.W.mg_of X G a6, b_counts := F6.binds (ps := ["row", "width"]) (fun _ _ _ _ _ _ us hl => match us, hl with | [_, _], _ => rfl),
    f_fault := f7, fd_fault := _, F_fault := F7, k_fault := k7, g_fault := PySem.W.mg_of X G a7, b_fault := F7.binds (ps := ["row"]) (fun _ _ _ _ _ _ us hl => match us, hl with | [_], _ => rfl),
    f_turned := f8, fd_turned := _, F_turned := F8, k_turned := k8, ds_turned := ds8, bd_turned := bd8, vd_turned := vd8, g_turned := PySem.W.mg_of X G a8, b_turned := bb8,
    f_start := f9, fd_start := _, F_start := F9, k_start := k9, g_start := PySem.W.mg_of X G a9, b_start := F9.binds (ps := ["row"]) (fun _ _ _ _ _ _ us hl => match us, hl with | [_], _ => rfl),
    f_cell_at := f10, fd_cell_at := _, F_cell_at := F10, k_cell_at := k10, g_cell_at := PySem.W.mg_of X G a10, b_cell_at := F10.binds (ps := ["_law_script", "_law_k"]) (fun _ _ _ _ _ _ us hl => match us, hl with | [_, _], _ => rfl),
    f_whole := f11, fd_whole := _, F_whole := F11, k_whole := k11, g_whole := PySem.W.mg_of X G a11, b_whole := F11.binds (ps := ["_law_found"]) (fun _ _ _ _ _ _ us hl => match us, hl with | [_], _ => rfl),
    f_alike := f12, fd_alike := _, F_alike := F12, k_alike := k12, g_alike := PySem.W.mg_of X G a12, b_alike := F12.binds (ps := ["_law_found", "_law_due"]) (fun _ _ _ _ _ _ us hl => match us, hl with | [_, _], _ => rfl),
    f_sums_row := f13, fd_sums_row := _, F_sums_row := F13, k_sums_row := k13, g_sums_row := PySem.W.mg_of X G a13, b_sums_row := F13.binds (ps := ["_law_strokes", "_law_places"]) (fun _ _ _ _ _ _ us hl => match us, hl with | [_, _], _ => rfl),
    f_changed := f14, fd_changed := _, F_changed := F14, k_changed := k14, g_changed := PySem.W.mg_of X G a14, b_changed := F14.binds (ps := ["_law_row_here", "_law_script"]) (fun _ _ _ _ _ _ us hl => match us, hl with | [_, _], _ => rfl),
    f_made := f15, fd_made := _, F_made := F15, k_made := k15, g_made := PySem.W.mg_of X G a15, b_made := F15.binds (ps := ["_law_script"]) (fun _ _ _ _ _ _ us hl => match us, hl with | [_], _ => rfl),
    f_row := f16, fd_row := _, F_row := F16, k_row := k16, g_row := PySem.W.mg_of X G a16, b_row := F16.binds (ps := ["_law_script"]) (fun _ _ _ _ _ _ us hl => match us, hl with | [_], _ => rfl),
    f_even := f17, fd_even := _, F_even := F17, k_even := k17, g_even := PySem.W.mg_of X G a17, b_even := F17.binds (ps := ["_law_row_here"]) (fun _ _ _ _ _ _ us hl => match us, hl with | [_], _ => rfl),
    f_own_counts := f18, fd_own_counts := _, F_own_counts := F18, k_own_counts := k18, g_own_counts := PySem.W.mg_of X G a18, b_own_counts := F18.binds (ps := ["_law_heads", "_law_places", "_law_width"]) (fun _ _ _ _ _ _ us hl => match us, hl with | [_, _, _], _ => rfl),
    f_own_fault := f19, fd_own_fault := _, F_own_fault := F19, k_own_fault := k19, g_own_fault := PySem.W.mg_of X G a19, b_own_fault := F19.binds (ps := ["_law_row_here", "_law_found"]) (fun _ _ _ _ _ _ us hl => match us, hl with | [_, _], _ => rfl),
    f_refused := f20, fd_refused := _, F_refused := F20, k_refused := k20, g_refused := PySem.W.mg_of X G a20, b_refused := F20.binds (ps := ["_law_row_here", "_law_found"]) (fun _ _ _ _ _ _ us hl => match us, hl with | [_, _], _ => rfl),
    f_own := f21, fd_own := _, F_own := F21, k_own := k21, g_own := PySem.W.mg_of X G a21, b_own := F21.binds (ps := ["_law_cell"]) (fun _ _ _ _ _ _ us hl => match us, hl with | [_], _ => rfl),
    m_range := PySem.W.mg_none_of X G z_range,
    m_int := PySem.W.mg_none_of X G z_int,
    m_len := PySem.W.mg_none_of X G z_len,
    m_sum := PySem.W.mg_none_of X G z_sum,
    m_max := PySem.W.mg_none_of X G z_max,
    m_min := PySem.W.mg_none_of X G z_min,
    m_isinstance := PySem.W.mg_none_of X G z_isinstance,
    m_bool := PySem.W.mg_none_of X G z_bool,
    m_zip := PySem.W.mg_none_of X G z_zip,
    m_list := PySem.W.mg_none_of X G z_list,
    m_ValueError := PySem.W.mg_none_of X G z_ValueError,
    m_tuple := PySem.W.mg_none_of X G z_tuple,
    tok_LONGEST := tk_LONGEST, gv_LONGEST := PySem.W.mg_of X G v_LONGEST,
    c_BeatError := C_BeatError, gc_BeatError := PySem.W.mg_of X G aC_BeatError,
    c_NoWheel := C_NoWheel, gc_NoWheel := PySem.W.mg_of X G aC_NoWheel,
    c_NoStroke := C_NoStroke, gc_NoStroke := PySem.W.mg_of X G aC_NoStroke,
    c_NoRow := C_NoRow, gc_NoRow := PySem.W.mg_of X G aC_NoRow,
    c_Uneven := C_Uneven, gc_Uneven := PySem.W.mg_of X G aC_Uneven,
    x_NoWheel := x_NoWheel, kc_NoWheel := kc_NoWheel, sub_NoWheel := sub_NoWheel, ty_NoWheel := ty_NoWheel,
    h_Uneven := ⟨⟨hg_Uneven, hk_Uneven, hs_Uneven, hd_Uneven, ha_Uneven, hn0, ht0, hm_Uneven⟩, hc_Uneven⟩,
    ve_Uneven := kit_VE sVE_Uneven,
    kit_Uneven_BeatError := kit_other iC_BeatError tC_BeatError s_Uneven_BeatError n_Uneven_BeatError,
    exm_Uneven := exm_other bC_BeatError iC_BeatError tC_BeatError s_Uneven_BeatError,
    kit_Uneven_NoWheel := kit_other iC_NoWheel tC_NoWheel s_Uneven_NoWheel n_Uneven_NoWheel,
    kit_Uneven_NoStroke := kit_other iC_NoStroke tC_NoStroke s_Uneven_NoStroke n_Uneven_NoStroke,
    kit_Uneven_NoRow := kit_other iC_NoRow tC_NoRow s_Uneven_NoRow n_Uneven_NoRow,
    kit_Uneven_Uneven := kit_self,
    f_init_Uneven := fI_Uneven, fd_init_Uneven := _, F_init_Uneven := FI_Uneven, b_init_Uneven := FI_Uneven.binds (ps := ["self", "width", "most", "least"]) (fun _ _ _ _ _ _ us hl => match us, hl with | [_, _, _, _], _ => rfl),
    ox_Uneven := ⟨⟨nmI_Uneven, qI_Uneven, nsI_Uneven, bsI_Uneven, _, snI_Uneven, subI_Uneven, abI_Uneven, colI_Uneven, ddI_Uneven, m0I_Uneven, m1I_Uneven, m2I_Uneven, m3I_Uneven, m5I_Uneven, xL_Uneven, (by decide +kernel : PySem.HandSPX.refsVE [.type "ValueError", .type "Exception", .type "BaseException", .type "object"] = true)⟩, saI_Uneven, bC_Uneven, tC_Uneven, kcI_Uneven⟩,
    iC_Uneven := aI_Uneven, tI_Uneven := tI_Uneven,
    no_Uneven_width := no_Uneven_width,
    no_Uneven_most := no_Uneven_most,
    no_Uneven_least := no_Uneven_least }
  have FT : Fun K "law" "law" s_law fa (PySem.W.fnOf "law" "law" (defArgs s_law) (defBody s_law) (defScope s_law) .none kV22 dc22 pm22 an22 cd22 ct22) := F22
  refine ⟨_, fun s v => ?_, fun base _ _ => ok_law T FT⟩
  exact .of_eq rfl
end Eb
open PySem PySem.W PyProof.Rows
set_option maxHeartbeats 0 in
theorem PySem.Challenge.cw_evenbeat_k08_whole_even_or_fault_holds : PySem.Challenge.rw_evenbeat_k08_whole_even_or_fault.Holds := by
  w_on; o_law; k_head; (case hw => w_witness2)
  k_fill
  refine L2.walk_of (l := PySem.Challenge.rw_evenbeat_k08_whole_even_or_fault) (n := 63) (k := 7) (x := "_law_script") (CX := fun _ => L2.CX0) (sp := fun w => Eb.sp_law _) rfl (by decide) rfl ⟨rfl, by decide, by decide⟩ (fun w h Y => PySem.W.kIn_of Y) ?F (fun _ _ a ns hl _ hS => ⟨a, ns, rfl, hS, hl, fun _ => rfl⟩) (fun _ _ _ _ _ h => h)
  case F =>
    intro w mg fa h KX G hmg
    refine' Eb.all_mk KX G hmg ?a1 ?l1 ?c1 ?k1 ?a2 ?l2 ?c2 ?k2 ?a3 ?l3 ?c3 ?k3 ?a4 ?l4 ?c4 ?k4 ?a5 ?l5 ?c5 ?k5 ?a6 ?l6 ?c6 ?k6 ?a7 ?l7 ?c7 ?k7 ?a8 ?l8 ?c8 ?k8 ?d8 ?a9 ?l9 ?c9 ?k9 ?a10 ?l10 ?c10 ?k10 ?a11 ?l11 ?c11 ?k11 ?a12 ?l12 ?c12 ?k12 ?a13 ?l13 ?c13 ?k13 ?a14 ?l14 ?c14 ?k14 ?a15 ?l15 ?c15 ?k15 ?a16 ?l16 ?c16 ?k16 ?a17 ?l17 ?c17 ?k17 ?a18 ?l18 ?c18 ?k18 ?a19 ?l19 ?c19 ?k19 ?a20 ?l20 ?c20 ?k20 ?a21 ?l21 ?c21 ?k21 ?a22 ?l22 ?c22 ?k22 ?z_range ?z_int ?z_len ?z_sum ?z_max ?z_min ?z_isinstance ?z_bool ?z_zip ?z_list ?z_ValueError ?z_tuple ?v_LONGEST ?aC_BeatError ?iC_BeatError ?tC_BeatError ?bC_BeatError ?aC_NoWheel ?iC_NoWheel ?tC_NoWheel ?bC_NoWheel ?aC_NoStroke ?iC_NoStroke ?tC_NoStroke ?bC_NoStroke ?aC_NoRow ?iC_NoRow ?tC_NoRow ?bC_NoRow ?aC_Uneven ?iC_Uneven ?tC_Uneven ?bC_Uneven ?x_NoWheel ?kc_NoWheel ?sub_NoWheel ?ty_NoWheel ?hn0 ?ht0 ?hc_Uneven ?hg_Uneven ?hk_Uneven ?hs_Uneven ?ha_Uneven ?hm_Uneven ?hd_Uneven ?sVE_Uneven ?s_Uneven_BeatError ?n_Uneven_BeatError ?s_Uneven_NoWheel ?n_Uneven_NoWheel ?s_Uneven_NoStroke ?n_Uneven_NoStroke ?s_Uneven_NoRow ?n_Uneven_NoRow ?xL_Uneven ?saI_Uneven ?kcI_Uneven ?aI_Uneven ?tI_Uneven ?lI_Uneven ?cI_Uneven ?kI_Uneven ?no_Uneven_width ?no_Uneven_most ?no_Uneven_least
    (case a1 => k_is)
    (case l1 => k_is)
    (case c1 => k_is)
    (case k1 => k_is)
    (case a2 => k_is)
    (case l2 => k_is)
    (case c2 => k_is)
    (case k2 => k_is)
    (case a3 => k_is)
    (case l3 => k_is)
    (case c3 => k_is)
    (case k3 => k_is)
    (case a4 => k_is)
    (case l4 => k_is)
    (case c4 => k_is)
    (case k4 => k_is)
    (case a5 => k_is)
    (case l5 => k_is)
    (case c5 => k_is)
    (case k5 => k_is)
    (case a6 => k_is)
    (case l6 => k_is)
    (case c6 => k_is)
    (case k6 => k_is)
    (case a7 => k_is)
    (case l7 => k_is)
    (case c7 => k_is)
    (case k7 => k_is)
    (case a8 => k_is)
    (case l8 => k_is)
    (case c8 => k_is)
    (case k8 => k_is)
    (case d8 => exact ⟨rfl, by k_is, _, rfl⟩)
    (case a9 => k_is)
    (case l9 => k_is)
    (case c9 => k_is)
    (case k9 => k_is)
    (case a10 => k_is)
    (case l10 => k_is)
    (case c10 => k_is)
    (case k10 => k_is)
    (case a11 => k_is)
    (case l11 => k_is)
    (case c11 => k_is)
    (case k11 => k_is)
    (case a12 => k_is)
    (case l12 => k_is)
    (case c12 => k_is)
    (case k12 => k_is)
    (case a13 => k_is)
    (case l13 => k_is)
    (case c13 => k_is)
    (case k13 => k_is)
    (case a14 => k_is)
    (case l14 => k_is)
    (case c14 => k_is)
    (case k14 => k_is)
    (case a15 => k_is)
    (case l15 => k_is)
    (case c15 => k_is)
    (case k15 => k_is)
    (case a16 => k_is)
    (case l16 => k_is)
    (case c16 => k_is)
    (case k16 => k_is)
    (case a17 => k_is)
    (case l17 => k_is)
    (case c17 => k_is)
    (case k17 => k_is)
    (case a18 => k_is)
    (case l18 => k_is)
    (case c18 => k_is)
    (case k18 => k_is)
    (case a19 => k_is)
    (case l19 => k_is)
    (case c19 => k_is)
    (case k19 => k_is)
    (case a20 => k_is)
    (case l20 => k_is)
    (case c20 => k_is)
    (case k20 => k_is)
    (case a21 => k_is)
    (case l21 => k_is)
    (case c21 => k_is)
    (case k21 => k_is)
    (case a22 => k_is)
    (case l22 => k_is)
    (case c22 => k_is)
    (case k22 => k_is)
    (case z_range => k_is)
    (case z_int => k_is)
    (case z_len => k_is)
    (case z_sum => k_is)
    (case z_max => k_is)
    (case z_min => k_is)
    (case z_isinstance => k_is)
    (case z_bool => k_is)
    (case z_zip => k_is)
    (case z_list => k_is)
    (case z_ValueError => k_is)
    (case z_tuple => k_is)
    (case v_LONGEST => k_is)
    (case aC_BeatError => k_is)
    (case iC_BeatError => k_is)
    (case tC_BeatError => k_is)
    (case bC_BeatError => k_is)
    (case aC_NoWheel => k_is)
    (case iC_NoWheel => k_is)
    (case tC_NoWheel => k_is)
    (case bC_NoWheel => k_is)
    (case aC_NoStroke => k_is)
    (case iC_NoStroke => k_is)
    (case tC_NoStroke => k_is)
    (case bC_NoStroke => k_is)
    (case aC_NoRow => k_is)
    (case iC_NoRow => k_is)
    (case tC_NoRow => k_is)
    (case bC_NoRow => k_is)
    (case aC_Uneven => k_is)
    (case iC_Uneven => k_is)
    (case tC_Uneven => k_is)
    (case bC_Uneven => k_is)
    (case x_NoWheel => k_exc)
    (case kc_NoWheel => k_is)
    (case sub_NoWheel => k_is)
    (case ty_NoWheel => k_is)
    (case hn0 => k_is)
    (case ht0 => k_is)
    (case hc_Uneven => k_is)
    (case hg_Uneven => k_is)
    (case hk_Uneven => k_is)
    (case hs_Uneven => k_is)
    (case ha_Uneven => k_is)
    (case hm_Uneven => k_is)
    (case hd_Uneven => k_is)
    (case sVE_Uneven => k_is)
    (case s_Uneven_BeatError => k_is)
    (case n_Uneven_BeatError => rfl)
    (case s_Uneven_NoWheel => k_is)
    (case n_Uneven_NoWheel => rfl)
    (case s_Uneven_NoStroke => k_is)
    (case n_Uneven_NoStroke => rfl)
    (case s_Uneven_NoRow => k_is)
    (case n_Uneven_NoRow => rfl)
    (case xL_Uneven => k_is)
    (case saI_Uneven => k_is)
    (case kcI_Uneven => k_is)
    (case aI_Uneven => k_is)
    (case tI_Uneven => k_is)
    (case lI_Uneven => k_is)
    (case cI_Uneven => k_is)
    (case kI_Uneven => k_is)
    (case no_Uneven_width => k_is)
    (case no_Uneven_most => k_is)
    (case no_Uneven_least => k_is)
