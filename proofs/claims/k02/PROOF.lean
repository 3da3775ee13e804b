import PyProof.Rows.All
import Wide.All
import OpenK.AllK
import Wide.FinOn
import PyProof.EqAt
import PyProof.EqKinds
import PyProof.TupleCall
import KE.KExcIs
import KE.GoesNew
import KE.GoesEnum
import PySem.Challenge.RW_evenbeat_k02_stroke_numbers
import HandS.ForMost
import HandS.Zip
import HandS.Rev
import HandS.RevTup
import HandS.Defaults
import HandS.ForExc
import HandS.IsInst
import HandS.ExcIs
import HandS.ExcField
import HandS.ExcInit
import HandS.ExcValue
import HandS.Wide
import HandS.Style
import HandS.Conv
set_option Elab.async false
set_option linter.all false
set_option maxRecDepth 100000
set_option maxHeartbeats 4000000
set_option exponentiation.threshold 1000
/- An exception that an except suite hands to a name, read behind the suite: try .. except X as e: v = e; isinstance of v; v.f -/
namespace Eb
open PySem PySem.Spec PyProof.Rows L2

def ExH (a : Addr) (cls : Value) (d : Option Addr) : HO := .ext fun h => ∃ (oe : Obj) (vs : Array Value), h.get? a = some oe ∧ Zc cls d oe ∧ oe.data = .fields vs

theorem exh_ok {P : Program} {w : World} {H : Hp} {h : Heap} {a : Addr} {cls : Value} {d : Option Addr} {oe : Obj} {vs : Array Value}
    (e : h.get? a = some oe) (z : Zc cls d oe) (f : oe.data = .fields vs) : ObjOk P w H h a (ExH a cls d) :=
  ⟨⟨oe, vs, e, z, f⟩, ⟨oe, e⟩, fun _ _ ⟨o, v, q, r⟩ k => ⟨o, v, k o q, r⟩⟩
theorem exh_at {P : Program} {w : World} {H : Hp} {h : Heap} {a : Addr} {cls : Value} {d : Option Addr} (hok : HOk P w H h) (e : H a = some (ExH a cls d)) :
    ∃ (oe : Obj) (vs : Array Value), h.get? a = some oe ∧ Zc cls d oe ∧ oe.data = .fields vs := by
  have t : ObjOk P w H h a (.ext fun h => ∃ (oe : Obj) (vs : Array Value), h.get? a = some oe ∧ Zc cls d oe ∧ oe.data = .fields vs) := hok a _ e
  exact t.1

section
variable {X : Cx} {pins : List (Addr × Obj)} {σ : L2.St} {H : Hp} {s : Shared} {a : Addr} {oe : Obj} {vs : Array Value} {cls : Value} {d : Option Addr}

/-- an untracked exception object of ours is tracked from here on -/
theorem hold_it (I : Inv X pins σ H s) (e : s.heap.get? a = some oe) (z : Zc cls d oe) (f : oe.data = .fields vs) (na : H a = none) (nL : a ≠ X.env.locals)
    (n0 : X.s_0.heap.get? a = none) (np : ∀ p ∈ X.pn ++ pins, p.1 ≠ a) : Inv X pins σ (upd H a (ExH a cls d)) s := by
  have was : ∀ {b : Addr} {o : Obj}, X.s_0.heap.get? b = some o → b ≠ a := fun {b o} q w => by
    rw [w, n0] at q
    cases q
  refine ⟨I.ok, I.os, I.bare,
    { keep := I.base.keep, slot := I.base.slot, there := I.base.there,
      free := fun b o q n hx => (upd_ne (was q)).trans (I.base.free b o q n hx),
      tups := fun b xs q => (upd_ne (ne_of_none (I.base.tups b xs q) na)).trans (I.base.tups b xs q),
      frzs := fun b o u q => (upd_ne (ne_of_none (I.base.frzs b o u q) na)).trans (I.base.frzs b o u q),
      tbls := fun b ps q => ?_ }, I.loc, I.cell, (upd_ne (Ne.symm nL)).trans I.free, fun x c q => ?_, fun p hp => ?_, fun b o q => ?_, I.len⟩
  · obtain ⟨more, r⟩ := I.base.tbls b ps q
    exact ⟨more, (upd_ne (ne_of_none r na)).trans r⟩
  · have ca : c ≠ a := fun w => by
      obtain ⟨v, o, ho, hd⟩ := I.cell x c q
      rw [w, e] at ho
      cases ho
      rw [f] at hd
      cases hd
    exact (upd_ne ca).trans (I.freeC x c q)
  · obtain ⟨h1, h2, h3⟩ := I.pin p hp
    exact ⟨h1, (upd_ne (np p hp)).trans h2, h3⟩
  · by_cases hb : b = a
    · rw [hb, upd_same] at q
      rw [hb]
      cases q
      exact exh_ok e z f
    · rw [upd_ne hb] at q
      exact (I.hok b o q).stay (fun _ _ _ r => r) (fun c r => (upd_ne (ne_of_none r na)).trans r) fun c xs r => (upd_ne (ne_of_none r na)).trans r
end

/-- what «except x as n: m = n» wishes of an exception of the body (it is caught; n in slot i, m in slot j) -/
def wHeld (K : PySem.W.Frag) (c : Value) (i j : Nat) (D : Ends) : WX := fun cls d σ H => PySem.W.exmOne K cls c = some true ∧
  ∀ a, H a = none → D.nx (((σ.set i (some (.ref a))).set j (some (.ref a))).set i none) (upd H a (ExH a cls d))

section
variable {X : Cx} {x n m : Str} {c : Value} {i j : Nat} {body : List Stmt} {p1 p2 p3 np pos pos' : Pos} {tb : WX → TS}
theorem ps_try_held (hs : X.stack = X.env :: X.outer) (hf : X.env.frame = some X.env.locals) (hex : X.ex = []) (hN : X.N.Nodup) (hi : X.N[i]? = some n) (hln : X.env.kindOf n = some .local)
    (hj : X.N[j]? = some m) (hlm : Loc X.env.scope m) (hfm : X.fn m = true ∨ X.env.scope.names.lookup m = some .local) (hc : Names X x c) (hdn : (n == ("__debug__" : Str)) = false) (hcn : (n == ("__classdict__" : Str)) = false)
    (hb : ∀ (W : WX) (pn : List (Addr × Obj)) (xe : Value → Shared → Prop), Takes (X.tr pn xe) W → PassesOwn (model X.prog X.w) X.A X.env xe → PSs (X.tr pn xe) body (tb W)) :
    PS X (.Try body [.ExceptHandler (some (.Name x np)) (some n) [.Assign [.Name m p1] (.Name n p2) p3] pos'] [] [] pos) (fun D σ H => tb (wHeld X.K c i j D) D σ H) := by
  constructor
  intro pins s σ H D I h
  have ok := I.ok
  have A1 : X.A.frames = some (X.env :: X.outer) := by rw [ok.frames, hs]
  refine wpAny_Try_except ?_
  have R := (hb (wHeld X.K c i j D) (X.pn ++ pins)
    (fun e s1 => wpAny (model X.prog X.w) X.A (noteFrame e X.env)
      (fun _ s2 => wpAny (model X.prog X.w) X.A (setFlight e none)
        (fun _ s3 => wpAny (model X.prog X.w) X.A (handleBy e X.env [.ExceptHandler (some (.Name x np)) (some n) [.Assign [.Name m p1] (.Name n p2) p3] pos']) (SP X pins D) X.xe s3)
        X.xe s2) X.xe s1)
    (fun u s' xx => ?_) PassesOwn.looking).run [] s σ H D (I.toTry _) h
  · refine wpAny_mono R (fun f s1 r => ?_) fun _ _ r => r
    cases f with
    | next =>
      obtain ⟨σ1, H1, J, q⟩ := r
      exact wpAny_execs_nil ⟨σ1, H1, J.ofTry ok, q⟩
    | ret u =>
      obtain ⟨v, σ1, H1, J, t, q⟩ := r
      exact ⟨v, σ1, H1, J.ofTry ok, t, q⟩
    | brk =>
      obtain ⟨σ1, H1, J, q⟩ := r
      exact ⟨σ1, H1, J.ofTry ok, q⟩
    | cont =>
      obtain ⟨σ1, H1, J, q⟩ := r
      exact ⟨σ1, H1, J.ofTry ok, q⟩
  -- what the body raised
  obtain ⟨a, B, sI, pn1, σ1, H1, cls, d, rfl, J1, nb, up, sky, na, os, ag, hit, go⟩ := xx
  have J : Inv X pins σ1 H1 sI := J1.ofTry ok
  have sky1 : Sky B (X.env :: X.outer) a (Zc cls d) X.env.locals s'.heap := hs ▸ sky
  show wpAny (model X.prog X.w) X.A (noteFrame (.ref a) X.env) _ _ _
  refine Sky.land Zc.steady A1 hf sky1 fun h3 fl up3 => ?_
  have J3 : Inv X pins σ1 H1 { s' with heap := h3 } := J.landed nb fl.1 (up.trans up3) os ag
  obtain ⟨o3, v3, e3, z3, d3⟩ := fl.there
  have off : a ∉ frs (X.env :: X.outer) := fun hm => by
    obtain ⟨_, o, e, hnf⟩ := fl.2.2.1.mem hm
    rw [e3] at e
    cases e
    exact hnf _ d3
  have nL : a ≠ X.env.locals := fun z => off (List.mem_filterMap.mpr ⟨X.env, List.mem_cons_self, by rw [hf, z]⟩)
  have nF : a ∉ X.fs := fun hm => by
    obtain ⟨e, he, q⟩ := List.mem_filterMap.mp hm
    exact off (List.mem_filterMap.mpr ⟨e, List.mem_cons_of_mem _ he, q⟩)
  have new : ∀ b o, sI.heap.get? b = some o → b ∉ frs X.stack → b ≠ a := fun b o q hb z => by
    have t := nb b o q hb
    rw [z, fl.2.1] at t
    cases t
  have offS : a ∉ frs X.stack := by rw [hs]; exact off
  have n0 : X.s_0.heap.get? a = none := by
    cases q : X.s_0.heap.get? a with
    | none => rfl
    | some o =>
      obtain ⟨o1, q1⟩ := J.base.there a o q (by rw [hex]; exact fun z => nomatch z)
      exact absurd rfl (new a o1 q1 offS)
  have nP : ∀ p ∈ X.pn ++ pins, p.1 ≠ a := fun p hp => by
    obtain ⟨q1, q2, q3, q4, _⟩ := J.pin p hp
    refine new p.1 p.2 q1 fun hm => ?_
    rw [hs] at hm
    obtain ⟨e, he, q⟩ := List.mem_filterMap.mp hm
    rcases List.mem_cons.mp he with w | w
    · rw [w, hf] at q
      exact q3 (Option.some.inj q).symm
    · exact q4 (List.mem_filterMap.mpr ⟨e, w, q⟩)
  have S3 := J3.suite e3 d3 na nL nF
  refine wpAny_handleBy_cons (codeAny_handlers_test ?_) (by intro q; cases q)
  have LT : PySem.W.Looks (model X.prog X.w) h3 (typeOf (.ref a)) cls := fun A Q E s k q => wpAny_typeOf_ref (k _ _ e3) (by rw [z3.1]; exact q)
  have LM := PySem.W.exm_one (M := model X.prog X.w) J3.kIn LT hit
  have read : ∀ {Q E : Value → Shared → Prop}, Q c { s' with heap := h3 } → wpAny (model X.prog X.w) (X.A.mark (some (.ref a))) (eval (.Name x np) X.env) Q E { s' with heap := h3 } := fun {Q E} q => by
    obtain ⟨g1, g2, g3⟩ := hc
    rcases g3 with g | ⟨g, g4, g5⟩
    · exact ld_glob (X := X.suite a ((a, o3) :: (X.pn ++ pins))) S3 g1 g q g2
    · exact ld_blt (X := X.suite a ((a, o3) :: (X.pn ++ pins))) S3 g1 g g4 q g5 g2
  refine read (LM.here (codeAny_handlers_suite_as ?_))
  refine HandSPX.lands_againZ fl fun h4 fl4 up4 => ?_
  have J4 : Inv X pins σ1 H1 { s' with heap := h4 } := J.landed nb fl4.1 ((up.trans up3).trans up4) os ag
  obtain ⟨o4, v4, e4, z4, d4⟩ := fl4.there
  have S4 := J4.suite e4 d4 na nL nF
  refine store_ok (X := X.suite a ((a, o4) :: (X.pn ++ pins))) (v := .ref a) S4 hN hi (.inl hln) rfl (fun s5 S5 => ?_) (.inr hln)
  have W : PSs (X.suite a ((a, o4) :: (X.pn ++ pins))) [.Assign [.Name m p1] (.Name n p2) p3] (tAsg (tVar i) (gName j)) :=
    pss_one (ps_set (X := X.suite a ((a, o4) :: (X.pn ++ pins))) (i := j) hN hj hlm (pe_var (X := X.suite a ((a, o4) :: (X.pn ++ pins))) hi (.inl hln) hdn hcn) (by rfl) hfm)
  have lt : i < σ1.length := by
    rw [J.len]
    exact (List.getElem?_eq_some_iff.mp hi).1
  refine wpAny_mono (W.run [] s5 _ H1 { nx := fun σ' H' => σ' = (σ1.set i (some (.ref a))).set j (some (.ref a)) ∧ H' = H1, rt := fun _ _ => False, bk := fun _ _ => False, ct := fun _ _ => False } S5 ⟨.ref a, List.getElem?_set_self lt, rfl, rfl⟩) (fun f s6 r => ?_) (fun _ _ z => z.elim)
  cases f with
  | next =>
    obtain ⟨σ6, H6, S6, rfl, rfl⟩ := r
    have pa := S6.pin (a, o4) (List.mem_append_left _ List.mem_cons_self)
    have J6 : Inv X pins _ H6 s6 := S6.unsuite ok
    have K6 : Inv X ((a, o4) :: pins) _ H6 s6 := J6.pins_of fun p hp => by
      rcases List.mem_cons.mp hp with w | w
      · rw [w]
        exact pa
      · exact J6.pin p (List.mem_append_right _ w)
    refine gone_ok K6 hN hi hln fun s7 J7 => ?_
    have p7 := J7.pin (a, o4) (List.mem_append_right _ List.mem_cons_self)
    have M7 : Inv X pins _ H6 s7 := J7.pins_of fun p hp => J7.pin p (List.mem_append_right _ (List.mem_cons_of_mem _ hp))
    exact ⟨_, _, hold_it M7 p7.1 z4 d4 p7.2.1 nL n0 nP, go a na⟩
  | ret u =>
    obtain ⟨_, _, _, _, _, q⟩ := r
    exact q.elim
  | brk =>
    obtain ⟨_, _, _, q⟩ := r
    exact q.elim
  | cont =>
    obtain ⟨_, _, _, q⟩ := r
    exact q.elim
end

/-! ### isinstance of such a held exception -/
/-- what the class D must say: as of one that a suite holds, and that it is a class of the text -/
structure HeldC (K : PySem.W.Frag) (D : Addr) : Prop extends ExcC K D where
  hc : (PySem.W.clsIn K D).isSome = true

/-- the held exception stands as an instance of its class -/
def Stood (H : Hp) (a D : Addr) (d : Option Addr) : Prop := H a = some (ExH a (.ref D) d) ∧ ∀ dd, d = some dd → ∃ fs, H dd = some (.xd fs)
theorem stood_inst {P : Program} {w : World} {H : Hp} {h : Heap} {a D : Addr} {d : Option Addr} (hok : HOk P w H h) (t : Stood H a D d) : ∃ ox od, PySem.W.InstAt h a ox D od := by
  obtain ⟨oe, vs, e, z, f⟩ := exh_at hok t.1
  cases d with
  | none => exact ⟨oe, none, e, z.1, by unfold PySem.W.notCls; rw [f] <;> rfl, by rw [z.2]; trivial⟩
  | some dd =>
    obtain ⟨fs, q⟩ := t.2 dd rfl
    have x : ObjOk P w H h dd (.xd fs) := hok dd _ q
    obtain ⟨mA, hns, _⟩ := x
    obtain ⟨o, _, _, ho, _⟩ := hns
    exact ⟨oe, some o, e, z.1, by unfold PySem.W.notCls; rw [f] <;> rfl, by rw [z.2]; exact ho⟩
section
variable {X : Cx}
def rIsH (K : PySem.W.Frag) : List V → Hp → VK → Prop := fun xs H Q => ∃ (a D : Addr) (d : Option Addr) (c : V) (cv : Value) (b : Bool), xs = [.ref a, c] ∧ Stood H a D d ∧ HeldC K D ∧ ClsV c cv ∧ PySem.W.kitOne K (.ref D) cv = some b ∧ Q (.bl b) H
def rIsHT (K : PySem.W.Frag) : List V → Hp → VK → Prop := fun xs H Q => ∃ (a D tp : Addr) (d : Option Addr) (cs : List V) (us : List Value) (b : Bool), xs = [.ref a, .ref tp] ∧ Stood H a D d ∧ HeldC K D ∧ H tp = some (.tup cs) ∧ Paired ClsV cs us ∧ PySem.W.kitAny K (.ref D) us = some b ∧ Q (.bl b) H
theorem held_kit {D a : Addr} {od : Option Obj} {ox : Obj} {K : PySem.W.Frag} (C : HeldC K D) : PySem.W.KitX K (.ref a) (.ref D) (fun h => PySem.W.InstAt h a ox D od) :=
  PySem.W.kitx_exc C.hc C.hg C.hk C.hs C.ha C.hn C.ht C.hm
theorem call_isH : CallR X (.builtin "isinstance") (rIsH X.K) := by
  intro pins s σ H xs us Q I r h
  obtain ⟨a, D, d, c, cv, b, rfl, st, C, kc, e, q⟩ := h
  obtain ⟨u1, u2, rfl, r1, r2⟩ := vals2 r
  cases (show u1 = Value.ref a from r1)
  have e2 := kc.eq r2
  subst e2
  obtain ⟨ox, od, J⟩ := stood_inst I.hok st
  exact PySem.W.kia_one (held_kit C) I.kIn J e (fun z => nomatch z) fun tk => ⟨.bl b, H, I.tok tk, rfl, q⟩
theorem call_isHT : CallR X (.builtin "isinstance") (rIsHT X.K) := by
  intro pins s σ H xs us Q I r h
  obtain ⟨a, D, tp, d, cs, ws, b, rfl, st, C, hT, kc, e, q⟩ := h
  obtain ⟨u1, u2, rfl, r1, r2⟩ := vals2 r
  cases (show u1 = Value.ref a from r1)
  cases (show u2 = Value.ref tp from r2)
  obtain ⟨ox, od, J⟩ := stood_inst I.hok st
  obtain ⟨_, its, rv, o, h1, h2, n, h3⟩ := (show ObjOk X.prog X.w H s.heap tp (.tup cs) from I.hok tp _ hT)
  have e3 := ClsV.all kc rv
  subst e3
  obtain ⟨oc, od', dt, sl⟩ := o
  simp only at h2 h3
  subst h2 h3
  exact PySem.W.kia_tup (held_kit C) I.kIn J h1 e (fun z => nomatch z) fun tk => ⟨.bl b, H, I.tok tk, rfl, q⟩
end
/-- v.f of a held exception whose own dict stands at dd -/
def tHeldF (K : PySem.W.Frag) (f : Str) (te : TE) : TE := fun σ H Q => te σ H fun x H1 => ∃ (a D dd : Addr) (fs : List (Str × V)) (v : V), x = .ref a ∧ H1 a = some (ExH a (.ref D) (some dd)) ∧ H1 dd = some (.xd fs) ∧ HeldC K D ∧ PySem.W.findIn K (.ref D) f = some none ∧ fs.lookup f = some v ∧ Q v H1
theorem pe_heldF {X : Cx} {e : Expr} {te : TE} {pos : Pos} {n : Str} (he : PE X e te) (hb : attributeBase e n X.env (eval e X.env) = eval e X.env := by rfl) : PE X (.Attribute e n pos) (tHeldF X.K n te) := by
  refine ⟨fun pins s σ H Q I h => ?_⟩
  refine attr_of hb (thn (he.run pins s σ H _ I h) fun u s1 hh => ?_)
  obtain ⟨x, H1, I1, rx, a, D, dd, fs, v, rfl, ea, ed, C, hno, l, q⟩ := hh
  obtain rfl : u = Value.ref a := rx
  obtain ⟨oe, vs, e4, z, hd⟩ := exh_at I1.hok ea
  have hx : ObjOk X.prog X.w H1 s1.heap dd (.xd fs) := I1.hok dd _ ed
  obtain ⟨mA, hns, hr⟩ := hx
  obtain ⟨od, ho, hl⟩ := lookIn_ns hns
  obtain ⟨u, hu, ru⟩ := RelO.some_of (v := v) (o := mA n) (by rw [← l]; exact hr n)
  have J : PySem.W.InstAt s1.heap a oe D (some od) := ⟨e4, z.1, by unfold PySem.W.notCls; rw [hd] <;> rfl, by rw [z.2]; exact ho⟩
  exact HandSPX.exc_get I1.kIn J C.hg C.hk C.hs (PySem.W.findObj_own C.hd hno rfl (by rw [hl, hu])) (handed_of ru) ⟨v, H1, I1.tok _, ru, q⟩
end Eb
namespace Eb
open PySem PySem.Spec PyProof.Rows L2
theorem kit_self {K : PySem.W.Frag} {D : Addr} : PySem.W.kitOne K (.ref D) (.ref D) = some true := by
  unfold PySem.W.kitOne
  rw [if_pos (by simp)]
theorem kit_cls {K : PySem.W.Frag} {D C : Addr} {b : Bool} (i : PySem.W.isClsIn K C = true) (t : PySem.W.typeIn K (.ref C) = some (.type "type")) (s : PySem.W.subIn K (.ref D) (.ref C) = some b) : PySem.W.kitCls K (.ref D) (.ref C) = some b := by
  have i2 : (PySem.W.clsIn K C).isSome = true := i
  unfold PySem.W.kitCls
  dsimp only
  rw [i2, t, if_pos (by rfl), s]
theorem kit_other {K : PySem.W.Frag} {D C : Addr} {b : Bool} (i : PySem.W.isClsIn K C = true) (t : PySem.W.typeIn K (.ref C) = some (.type "type")) (s : PySem.W.subIn K (.ref D) (.ref C) = some b) (n : (D == C) = false) : PySem.W.kitOne K (.ref D) (.ref C) = some b := by
  unfold PySem.W.kitOne
  have e : (Value.ref D == Value.ref C) = false := by
    have n' : D ≠ C := by simpa using n
    simpa using n'
  rw [e, if_neg Bool.false_ne_true]
  exact kit_cls i t s
theorem exm_other {K : PySem.W.Frag} {D C : Addr} {b : Bool} (x : PySem.W.subIn K (.ref C) (.type "BaseException") = some true) (i : PySem.W.isClsIn K C = true) (t : PySem.W.typeIn K (.ref C) = some (.type "type")) (s : PySem.W.subIn K (.ref D) (.ref C) = some b) :
    PySem.W.exmOne K (.ref D) (.ref C) = some b := by
  unfold PySem.W.exmOne
  rw [x, if_pos (by rfl)]
  exact kit_cls i t s
theorem kit_VE {K : PySem.W.Frag} {D : Addr} {b : Bool} (s : PySem.W.subIn K (.ref D) (.type "ValueError") = some b) : PySem.W.kitOne K (.ref D) (.type "ValueError") = some b := by
  unfold PySem.W.kitOne
  rw [if_neg (by simp)]
  show (if PySem.W.kitMeta "ValueError" = true then PySem.W.subIn K (.ref D) (.type "ValueError") else none) = some b
  rw [if_pos (by decide +kernel), s]
end Eb
/-! readings, one step a lemma; «walk_at "rd"» takes the steps that need no thought -/
namespace Eb
open PySem PySem.Spec PyProof.Rows L2
section
variable {σ : L2.St} {H : Hp} {Q : VK} {D : Ends} {v x y : V} {ta tb te : TE} {tr : TA} {t u : TS} {c c' : TT} {i j : Int} {k : Bool} {R : L2.St → Hp → Prop} {QT : Bool → Hp → Prop} {QA : List V → Hp → Prop}
theorem rd_var {n : Nat} (h : σ[n]? = some (some v)) (q : Q v H) : tVar n σ H Q := ⟨v, h, q⟩
theorem rd_c (q : Q v H) : tC v σ H Q := q
theorem rd_op {r : R2} (q : ta σ H fun x H1 => tb σ H1 fun y H2 => r x y H2 Q) : tOp r ta tb σ H Q := q
theorem rd_un {r : V → Hp → VK → Prop} (q : ta σ H fun x H1 => r x H1 Q) : tUn r ta σ H Q := q
theorem rd_I0 {g : Int → Int → V} (q : Q (g i j) H) : rI0 g (.int i) (.int j) H Q := ⟨i, j, rfl, rfl, q⟩
theorem rd_I {C : Int → Int → Prop} {g : Int → Int → V} (hc : C i j) (q : Q (g i j) H) : rI C g (.int i) (.int j) H Q := ⟨i, j, rfl, rfl, hc, q⟩
theorem rd_U {g : Int → V} (q : Q (g i) H) : rU g (.int i) H Q := ⟨i, rfl, q⟩
theorem rd_eqI (q : Q (.bl (decide (V.int i = V.int j))) H) : rEq (.int i) (.int j) H Q := ⟨rfl, q⟩
theorem rd_neI (q : Q (.bl (!decide (V.int i = V.int j))) H) : rNe (.int i) (.int j) H Q := ⟨rfl, q⟩
theorem rd_cons (q : ta σ H fun x H1 => tr σ H1 fun xs H2 => QA (x :: xs) H2) : tCons ta tr σ H QA := q
theorem rd_nil (q : QA [] H) : tNil σ H QA := q
theorem rd_cb {r : List V → Hp → VK → Prop} (q : tr σ H fun vs H1 => r vs H1 Q) : tCB r tr σ H Q := q
theorem rd_call {sp : Sp} {dvs : List V} {E : XK} (q : tr σ H fun vs H1 => sp (vs ++ dvs) H1 Q E) : tCall sp dvs E tr σ H Q := q
theorem rd_callS {sp : Sp} {E : L2.St → XK} (q : tr σ H fun vs H1 => sp vs H1 Q (E σ)) : tCallS sp E tr σ H Q := q
theorem rd_test (q : te σ H fun x H' => ∃ k, x = .bl k ∧ QT k H') : tTest te σ H QT := q
theorem rd_tb (q : te σ H fun x H' => ∃ k, x = .bl k ∧ QT k H') : tB te σ H QT := q
theorem rd_bl {q' : Bool → Prop} (q : q' k) : ∃ k', V.bl k = .bl k' ∧ q' k' := ⟨k, rfl, q⟩
theorem rd_and (q : c σ H fun b H1 => if b = true then c' σ H1 QT else QT false H1) : tAnd c c' σ H QT := q
theorem rd_or (q : c σ H fun b H1 => if b = true then QT true H1 else c' σ H1 QT) : tOr c c' σ H QT := q
theorem rd_not (q : c σ H fun b H1 => QT (!b) H1) : tNot c σ H QT := q
theorem rd_andV (q : ta σ H fun x H1 => ∃ b, x = .bl b ∧ if b = true then tb σ H1 Q else Q (.bl false) H1) : tAndV ta tb σ H Q := q
theorem rd_orV (q : ta σ H fun x H1 => ∃ b, x = .bl b ∧ if b = true then Q (.bl true) H1 else tb σ H1 Q) : tOrV ta tb σ H Q := q
theorem rd_notV (q : ta σ H fun x H1 => ∃ b, x = .bl b ∧ Q (.bl (!b)) H1) : tNotV ta σ H Q := q
theorem rd_ifE (q : c σ H fun b H1 => if b = true then ta σ H1 Q else tb σ H1 Q) : tIf c ta tb σ H Q := q
theorem rd_asg {g : TG} (q : te σ H fun x H1 => g x σ H1 D.nx) : tAsg te g D σ H := q
theorem rd_gn {n : Nat} (q : R (σ.set n (some v)) H) : gName n v σ H R := q
theorem rd_seq (q : t { D with nx := u D } σ H) : tSeq t u D σ H := q
theorem rd_ret (q : te σ H D.rt) : tRet te D σ H := q
theorem rd_ifS (q : c σ H fun b H1 => if b = true then t D σ H1 else u D σ H1) : tIfS c t u D σ H := q
theorem rd_drop (q : te σ H fun _ H1 => D.nx σ H1) : tDrop te D σ H := q
theorem rd_next (q : D.nx σ H) : tNext D σ H := q
theorem rd_tup (q : tr σ H fun xs H1 => xs.length ≤ sizeLine ∧ ∀ p, H1 p = none → Q (.ref p) (upd H1 p (.tup xs))) : tTup tr σ H Q := q
theorem rd_lst (q : tr σ H fun xs H1 => xs.length ≤ sizeLine ∧ ∀ p, H1 p = none → Q (.ref p) (upd H1 p (.lst xs))) : tLst tr σ H Q := q
theorem rd_ixL {K : PySem.W.Frag} {p : Addr} {xs : List V} (hs : SqL K H p xs) (hi : atI xs i = some v) (q : Q v H) : rIxL K (.ref p) (.int i) H Q := ⟨p, xs, i, v, rfl, rfl, hs, hi, q⟩
theorem rd_ixT {K : PySem.W.Frag} {p : Addr} {xs : List V} (hs : SqT K H p xs) (hi : atI xs i = some v) (q : Q v H) : rIxT K (.ref p) (.int i) H Q := ⟨p, xs, i, v, rfl, rfl, hs, hi, q⟩
theorem rd_sl {r : V → Option Int → Option Int → Hp → VK → Prop} {tl th : TO} (q : te σ H fun x H1 => tl σ H1 fun l H2 => th σ H2 fun u H3 => r x l u H3 Q) : tSl r te tl th σ H Q := q
theorem rd_no {QO : Option Int → Hp → Prop} (q : QO none H) : tNoPart σ H QO := q
theorem rd_slL {K : PySem.W.Frag} {p : Addr} {xs : List V} {lo hi : Option Int} (hs : SqL K H p xs) (q : ∀ n, H n = none → Q (.ref n) (upd H n (.lst (cutV xs lo hi)))) : rSlL K (.ref p) lo hi H Q := ⟨p, xs, rfl, hs, q⟩
theorem rd_for {wi : TI} {g : TG} {tb : TS} (q : wi σ H fun J H1 => ∃ W : Nat → Nat → L2.St → Hp → Prop, (∃ m, W 0 m σ H1) ∧ ∀ i m σ H, W i m σ H →
  (J.stop i H ∧ D.nx σ H) ∨ (J.go i H ∧ ∃ N : L2.St → Hp → Prop, (∀ σ' H', N σ' H' → ∃ m', m' < m ∧ W (i + 1) m' σ' H') ∧ ∀ x H', J.yld i H x H' → g x σ H' fun σ2 H2 => tb { D with nx := N, ct := N, bk := D.nx } σ2 H2)) : tFor wi g tb D σ H := q
theorem rd_lc {wi : TI} {g : TG} {tt : TT} {vs : List Nat} (q : wi σ H fun J H1 => ∀ D, H1 D = none → ∃ W : Nat → Nat → Hp → Prop, (∃ m, W 0 m (upd H1 D (.lst []))) ∧ ∀ i m H, W i m H →
  (J.stop i H ∧ Q (.ref D) H) ∨ (J.go i H ∧ ∃ Nx : Hp → Prop, (∀ H', Nx H' → ∃ m', m' < m ∧ W (i + 1) m' H') ∧ ∀ x H', J.yld i H x H' → g x (wipe σ vs) H' fun σ2 H2 => wipe σ2 vs = wipe σ vs ∧ tt σ2 H2 fun b H3 =>
    if b = true then te σ2 H3 fun y H4 => ∃ acc, H4 D = some (.lst acc) ∧ acc.length < sizeLine ∧ Nx (upd H4 D (.lst (acc ++ [y]))) else Nx H3)) : tLc wi g tt te vs σ H Q := q
theorem rd_tyes (q : QT true H) : tYes σ H QT := q
theorem rd_rng1 {R : It → Hp → Prop} (q : tr σ H fun vs H1 => ∃ j : Int, vs = [.int j] ∧ -(2 ^ 62) ≤ j ∧ j < 2 ^ 62 ∧ R (Itr 0 j.toNat) H1) : iRng1 tr σ H R := q
theorem rd_ni {K : PySem.W.Frag} {p : Addr} {xs : List V} (hT : H p = some (.tup xs)) (hx : flatV x = true) (hxs : xs.all flatV = true) (q : Q (.bl (!inV x xs)) H) : rIn K true x (.ref p) H Q := ⟨p, xs, rfl, .inr (SqT.of hT), hx, hxs, q⟩
theorem rd_set {p : Addr} {xs : List V} {n : Nat} {R' : Hp → Prop} (h : H p = some (.lst xs)) (hj : ixN xs.length i = some n) (q : R' (upd H p (.lst (xs.set n v)))) : rSetL (.ref p) (.int i) v H R' := ⟨p, xs, i, n, rfl, rfl, h, hj, q⟩
theorem rd_gsub {to ti : TE} {t : TSet} (q : to σ H fun o H1 => ti σ H1 fun i H2 => t o i v H2 fun H3 => R σ H3) : gSub to ti t v σ H R := q
theorem rd_lrg {te' : L2.St → Hp → (Int → Int → Hp → Prop) → Prop} (q : te' σ H fun a b H1 => RgOk a b ∧ ∀ q, H1 q = none → Q (.ref q) (upd H1 q (.lst (rgV a b)))) : tLstRg te' σ H Q := q
theorem rd_rg1 {QR : Int → Int → Hp → Prop} (q : te σ H fun x H1 => ∃ n, x = .int n ∧ QR 0 n H1) : tRg1 te σ H QR := q
theorem rgV_ints (n : Int) : rgV 0 n = ((List.range n.toNat).map fun k => ((k : Nat) : Int)).map V.int := by
  unfold rgV
  rw [List.map_map, Int.sub_zero]
  refine List.map_congr_left fun k _ => ?_
  show V.int (0 + (k : Int)) = V.int (k : Int)
  rw [Int.zero_add]
def rAddZ : R2 := fun x y H Q => ∃ i j, x = .str i ∧ y = .str j ∧ i.length + j.length ≤ sizeLine ∧ Q (.str (i ++ j)) H
theorem op_addZ {X : Cx} : OpR X (binaryOp .Add) rAddZ := op_add_str
theorem rd_addZ {a b : Str} (h : a.length + b.length ≤ 1000) (q : Q (.str (a ++ b)) H) : rAddZ (.str a) (.str b) H Q := ⟨a, b, rfl, rfl, Nat.le_of_lt (small1000 h), q⟩
theorem rd_slS {z : Str} {lo hi : Option Int} (h : z.length ≤ 1000) (q : Q (.str (cutS z lo hi)) H) : rSlS (.str z) lo hi H Q := ⟨z, rfl, Nat.le_of_lt (small1000 h), q⟩
theorem rd_ixZ {z : Str} {c : Nat} (h : z.length ≤ 1000) (hi : atI z.cps.toList i = some c) (q : Q (.str ⟨#[c]⟩) H) : rIxS (.str z) (.int i) H Q := ⟨z, i, c, rfl, rfl, Nat.le_of_lt (small1000 h), hi, q⟩
theorem rd_eqZ {a b : Str} (q : Q (.bl (decide (V.str a = V.str b))) H) : rEq (.str a) (.str b) H Q := ⟨rfl, q⟩
theorem rd_neZ {a b : Str} (q : Q (.bl (!decide (V.str a = V.str b))) H) : rNe (.str a) (.str b) H Q := ⟨rfl, q⟩
theorem rd_chain {r r' : R2} {tc : TE} (q : ta σ H fun x H1 => tb σ H1 fun y H2 => r x y H2 fun z H3 => ∃ k, z = .bl k ∧ (if k = true then tc σ H3 fun w' H4 => r' y w' H4 Q else Q (.bl false) H3)) : tChain r r' ta tb tc σ H Q := q
theorem rd_m1 {r : V → List V → Hp → VK → Prop} (q : ta σ H fun x H1 => (∃ a, x = .str a) ∧ te σ H1 fun y H2 => r x [y] H2 Q) : tM1 r ta te σ H Q := q
theorem rd_isZ {a : Str} {B : Prop} (q : B) : (∃ a', V.str a = .str a') ∧ B := ⟨⟨a, rfl⟩, q⟩
theorem rd_gtup {K : PySem.W.Frag} {tg : TGs} {n : Nat} {p : Addr} {xs : List V} (hT : H p = some (.tup xs)) (hn : xs.length = n) (q : tg xs σ H R) : gTup K n tg (.ref p) σ H R := ⟨p, xs, rfl, SqT.of hT, hn, q⟩
theorem rd_gcons {tg : TG} {tgs : TGs} {r : List V} (q : tg v σ H fun σ' H' => tgs r σ' H' R) : gCons tg tgs (v :: r) σ H R := ⟨v, r, rfl, q⟩
theorem rd_gnil (q : R σ H) : gNil [] σ H R := ⟨rfl, q⟩
theorem rd_is {tl : TE} {RI : It → Hp → Prop} (q : tl σ H fun v H1 => ∃ x, v = .str x ∧ RI (Its x) H1) : iStr tl σ H RI := q
theorem rd_isx {x : Str} {B : Str → Prop} (q : B x) : ∃ x', V.str x = .str x' ∧ B x' := ⟨x, rfl, q⟩
theorem rd_il {K : PySem.W.Frag} {tl : TE} {R : It → Hp → Prop} (q : tl σ H fun x H1 => ∃ a, x = .ref a ∧ (∃ xs, SqL K H1 a xs) ∧ R (Itl K a) H1) : iList K tl σ H R := q
theorem rd_part {QO : Option Int → Hp → Prop} (q : te σ H fun x H1 => ∃ i, x = .int i ∧ QO (some i) H1) : tPart te σ H QO := q
theorem rd_partI {QI : Int → Prop} (q : QI i) : ∃ i', V.int i = .int i' ∧ QI i' := ⟨i, rfl, q⟩
theorem rd_bm {K : PySem.W.Frag} {T : String} {r : V → List V → Hp → VK → Prop} (q : te σ H fun x H1 => tyV K T x H1 ∧ tr σ H1 fun xs H2 => r x xs H2 Q) : tBM K T r te tr σ H Q := q
theorem rd_bm0 {K : PySem.W.Frag} {T : String} {r : V → List V → Hp → VK → Prop} (q : te σ H fun x H1 => tyV K T x H1 ∧ r x [] H1 Q) : tBM0 K T r te σ H Q := q
theorem rd_tyL {K : PySem.W.Frag} {p : Addr} {xs : List V} {B : Prop} (hs : H p = some (.lst xs)) (q : B) : tyV K "list" (.ref p) H ∧ B := ⟨.inl ⟨rfl, _, SqL.of hs⟩, q⟩
theorem rd_app {p : Addr} {xs : List V} (hs : H p = some (.lst xs)) (hz : xs.length < 1000) (q : Q .non (upd H p (.lst (xs ++ [y])))) : rAppend (.ref p) [y] H Q := ⟨p, xs, y, rfl, rfl, hs, small1000 (Nat.le_of_lt hz), q⟩
theorem rd_cat {p r : Addr} {xs ys : List V} (hx : H p = some (.lst xs)) (hy : H r = some (.lst ys)) (hz : xs.length + ys.length ≤ 1000) (q : ∀ n, H n = none → Q (.ref n) (upd H n (.lst (xs ++ ys)))) : rCat (.ref p) (.ref r) H Q :=
  ⟨p, r, xs, ys, rfl, rfl, hx, hy, Nat.le_of_lt (small1000 hz), q⟩
theorem rd_max {K : PySem.W.Frag} {p : Addr} {ns : List Int} (hs : SqL K H p (ns.map V.int)) (h0 : 0 < ns.length) (q : ∀ m, m ∈ ns → (∀ y, y ∈ ns → y ≤ m) → Q (.int m) H) : rMax K [.ref p] H Q := ⟨p, ns, rfl, hs, h0, q⟩
theorem rd_minL {K : PySem.W.Frag} {p : Addr} {ns : List Int} (hs : SqL K H p (ns.map V.int)) (h0 : 0 < ns.length) (q : ∀ m, m ∈ ns → (∀ y, y ∈ ns → m ≤ y) → Q (.int m) H) : rMin K [.ref p] H Q := ⟨p, ns, rfl, hs, h0, q⟩
theorem rd_sum {K : PySem.W.Frag} {p : Addr} {ns : List Int} (hs : SqL K H p (ns.map V.int)) (q : Q (.int ns.sum) H) : rSum K [.ref p] H Q := ⟨p, ns, rfl, hs, q⟩
theorem rd_eqB {a b : Bool} (q : Q (.bl (decide (V.bl a = V.bl b))) H) : rEq (.bl a) (.bl b) H Q := ⟨rfl, q⟩
theorem rd_neB {a b : Bool} (q : Q (.bl (!decide (V.bl a = V.bl b))) H) : rNe (.bl a) (.bl b) H Q := ⟨rfl, q⟩
theorem rd_isB {a b : Bool} (q : Q (.bl (decide (a = b))) H) : rIsB (.bl a) (.bl b) H Q := ⟨a, b, rfl, rfl, q⟩
theorem rd_niB {a b : Bool} (q : Q (.bl (!decide (a = b))) H) : rNotB (.bl a) (.bl b) H Q := ⟨a, b, rfl, rfl, q⟩
/- tests whose answer is known -/
theorem rd_yes {p : Prop} [Decidable p] {A B : Prop} (hp : p) (h : A) : if decide p = true then A else B := by
  rw [if_pos (decide_eq_true hp)]
  exact h
theorem rd_nay {p : Prop} [Decidable p] {A B : Prop} (hp : ¬ p) (h : B) : if decide p = true then A else B := by
  rw [if_neg (by rw [decide_eq_false hp]; exact Bool.false_ne_true)]
  exact h
theorem rd_split {p : Prop} [Decidable p] {A B : Prop} (h1 : p → A) (h2 : ¬ p → B) : if decide p = true then A else B := by
  by_cases hp : p
  · exact rd_yes hp (h1 hp)
  · exact rd_nay hp (h2 hp)
theorem rd_splitN {p : Prop} [Decidable p] {A B : Prop} (h1 : ¬ p → A) (h2 : p → B) : if (!decide p) = true then A else B := by
  by_cases hp : p
  · rw [decide_eq_true hp]
    exact iteF (h2 hp)
  · rw [decide_eq_false hp]
    exact iteT (h1 hp)
theorem rd_nt {A B : Prop} (h : B) : if (!true) = true then A else B := iteF h
theorem rd_nf {A B : Prop} (h : A) : if (!false) = true then A else B := iteT h
theorem intEq : (V.int i = V.int j) = (i = j) := propext ⟨fun h => V.int.inj h, fun h => by rw [h]⟩
/- builtins by names of ours (the readings have a head then) -/
def rLenL (K : PySem.W.Frag) : List V → Hp → VK → Prop := fun xs H Q => ∃ p ys, xs = [.ref p] ∧ (SqL K H p ys ∨ SqT K H p ys) ∧ Q (.int ys.length) H
theorem call_lenL {X : Cx} : CallR X (.builtin "len") (rLenL X.K) := call_len_seq
theorem rd_len {K : PySem.W.Frag} {p : Addr} {ys : List V} (hs : SqL K H p ys) (q : Q (.int ys.length) H) : rLenL K [.ref p] H Q := ⟨p, ys, rfl, .inl hs, q⟩
theorem rd_lenT {K : PySem.W.Frag} {p : Addr} {ys : List V} (hs : SqT K H p ys) (q : Q (.int ys.length) H) : rLenL K [.ref p] H Q := ⟨p, ys, rfl, .inr hs, q⟩
def rLenZ : List V → Hp → VK → Prop := fun xs H Q => ∃ z, xs = [.str z] ∧ z.length ≤ sizeLine ∧ Q (.int z.length) H
theorem call_lenZ {X : Cx} : CallR X (.builtin "len") rLenZ := call_len_str
theorem rd_lenZ {z : Str} (h : z.length ≤ sizeLine) (q : Q (.int z.length) H) : rLenZ [.str z] H Q := ⟨z, rfl, h, q⟩
def rIntB : List V → Hp → VK → Prop := fun xs H Q => (∃ i, xs = [.int i] ∧ Q (.int i) H) ∨ ∃ k, xs = [.bl k] ∧ Q (.int (if k then 1 else 0)) H
theorem call_intB {X : Cx} : CallR X (.type "int") rIntB := call_int1
theorem rd_int (q : Q (.int (if k then 1 else 0)) H) : rIntB [.bl k] H Q := .inr ⟨k, rfl, q⟩
def rMin2 : List V → Hp → VK → Prop := fun xs H Q => ∃ i j, xs = [.int i, .int j] ∧ Q (.int (if j < i then j else i)) H
theorem call_minI {X : Cx} (hc : X.calm = true) : CallR X (.builtin "min") rMin2 := call_min2 hc
theorem rd_min (q : Q (.int (if j < i then j else i)) H) : rMin2 [.int i, .int j] H Q := ⟨i, j, rfl, q⟩
def rLst (K : PySem.W.Frag) : List V → Hp → VK → Prop := fun xs H Q => ∃ p ys, xs = [.ref p] ∧ (SqL K H p ys ∨ SqT K H p ys) ∧ ∀ l, H l = none → Q (.ref l) (upd H l (.lst ys))
theorem call_lstL {X : Cx} : CallR X (.type "list") (rLst X.K) := call_list_of
theorem rd_lstOf {K : PySem.W.Frag} {p : Addr} {ys : List V} (hs : SqL K H p ys) (q : ∀ l, H l = none → Q (.ref l) (upd H l (.lst ys))) : rLst K [.ref p] H Q := ⟨p, ys, rfl, .inl hs, q⟩
theorem rd_lstOfT {K : PySem.W.Frag} {p : Addr} {ys : List V} (hs : SqT K H p ys) (q : ∀ l, H l = none → Q (.ref l) (upd H l (.lst ys))) : rLst K [.ref p] H Q := ⟨p, ys, rfl, .inr hs, q⟩
/- isinstance -/
theorem rd_isi {K : PySem.W.Frag} {z w : V} {t' u' : Value} (ty : TyX K H z t') (kc : ClsV w u') (e : PySem.W.kitOne K t' u' = some k) (q : Q (.bl k) H) : rIsi K [z, w] H Q := ⟨z, w, t', u', k, rfl, kc, ty, e, q⟩
theorem rd_isiII {K : PySem.W.Frag} (q : Q (.bl true) H) : rIsi K [.int i, .ty "int"] H Q := rd_isi (.base (.int i)) (.ty _) (kit_ty (by decide +kernel)) q
theorem rd_isiIB {K : PySem.W.Frag} (q : Q (.bl false) H) : rIsi K [.int i, .ty "bool"] H Q := rd_isi (.base (.int i)) (.ty _) (kit_ty (by decide +kernel)) q
theorem rd_isiBB {K : PySem.W.Frag} (q : Q (.bl true) H) : rIsi K [.bl k, .ty "bool"] H Q := rd_isi (.base (.bl k)) (.ty _) (kit_ty (by decide +kernel)) q
theorem rd_isiL {K : PySem.W.Frag} {p : Addr} {ys : List V} (hs : H p = some (.lst ys)) (q : Q (.bl true) H) : rIsi K [.ref p, .ty "list"] H Q := rd_isi (.base (.lst hs)) (.ty _) (kit_ty (by decide +kernel)) q
theorem rd_isiT {K : PySem.W.Frag} {p : Addr} {ys : List V} (hs : H p = some (.tup ys)) (q : Q (.bl true) H) : rIsi K [.ref p, .ty "tuple"] H Q := rd_isi (.base (.tup hs)) (.ty _) (kit_ty (by decide +kernel)) q
theorem rd_isiS {K : PySem.W.Frag} {z : Str} (q : Q (.bl true) H) : rIsi K [.str z, .ty "str"] H Q := rd_isi (.base (.str z)) (.ty _) (kit_ty (by decide +kernel)) q
end
/-- a fact of a decided number at a literal list -/
theorem same_new {H : Hp} {p : Addr} {o : HO} (h : H p = none) : Same H (upd H p o) := fun b x e => by
  rw [upd_ne (ne_of_none e h)]
  exact e
theorem same_to {H H1 : Hp} {p : Addr} {o : HO} (a : Same H H1) (h : H1 p = none) : Same H (upd H1 p o) := a.trans (same_new h)
/-- one that H does not track may be written -/
theorem same_put {H H1 : Hp} {p : Addr} {o : HO} (a : Same H H1) (h : H p = none) : Same H (upd H1 p o) := fun b x e => by
  rw [upd_ne (ne_of_none e h)]
  exact a b x e
end Eb
namespace Eb
open PySem PySem.Spec PyProof.Rows L2
section
variable {H : Hp} {Q : VK} {K : PySem.W.Frag} {a D : Addr} {d : Option Addr} {b : Bool} {c : V} {cv : Value}
theorem rd_isH (st : Stood H a D d) (C : HeldC K D) (kc : ClsV c cv) (e : PySem.W.kitOne K (.ref D) cv = some b) (q : Q (.bl b) H) : rIsH K [.ref a, c] H Q := ⟨a, D, d, c, cv, b, rfl, st, C, kc, e, q⟩
theorem rd_isHT {tp : Addr} {cs : List V} {us : List Value} (st : Stood H a D d) (C : HeldC K D) (hT : H tp = some (.tup cs)) (kc : Paired ClsV cs us) (e : PySem.W.kitAny K (.ref D) us = some b) (q : Q (.bl b) H) : rIsHT K [.ref a, .ref tp] H Q :=
  ⟨a, D, tp, d, cs, us, b, rfl, st, C, hT, kc, e, q⟩
theorem stood_new (h : H a = none) : Stood (upd H a (ExH a (.ref D) none)) a D none := ⟨upd_same, fun _ z => nomatch z⟩
theorem Stood.to {p : Addr} {o : HO} (h : H p = none) (t : Stood H a D d) : Stood (upd H p o) a D d :=
  ⟨same_new h _ _ t.1, fun dd e => let ⟨fs, q⟩ := t.2 dd e; ⟨fs, same_new h _ _ q⟩⟩
end
end Eb
/-! more readings -/
namespace Eb
open PySem PySem.Spec PyProof.Rows L2
section
variable {σ : L2.St} {H : Hp} {Q : VK} {D : Ends} {v w x y : V} {ta te : TE} {tr : TA} {i j : Int}
theorem rd_aug {n : Nat} {ti : TIp} (h : σ[n]? = some (some x)) (q : te σ H fun y H1 => ti x y H1 fun z H2 => D.nx (σ.set n (some z)) H2) : tAug n te ti D σ H := ⟨x, h, q⟩
theorem rd_ipI {f : Int → Int → Int} (q : Q (.int (f i j)) H) : ipI f (.int i) (.int j) H Q := ⟨i, j, rfl, rfl, q⟩
theorem rd_par {n m : Nat} (q : tr σ H fun vs H1 => ∃ v w, vs = [v, w] ∧ D.nx ((σ.set n (some v)).set m (some w)) H1) : tPar n m tr D σ H := q
theorem rd_two {B : V → V → Prop} (q : B v w) : ∃ v' w', [v, w] = [v', w'] ∧ B v' w' := ⟨v, w, rfl, q⟩
theorem rd_izip {K : PySem.W.Frag} {R : It → Hp → Prop} (q : tr σ H fun vs H1 => ∃ a b xs ys, vs = [.ref a, .ref b] ∧ SqL K H1 a xs ∧ SqL K H1 b ys ∧ R (Itz K a b) H1) : iZip K tr σ H R := q
theorem rd_clear {p : Addr} {xs : List V} (h : H p = some (.lst xs)) (q : Q .non (upd H p (.lst []))) : rClear (.ref p) [] H Q := ⟨p, xs, rfl, rfl, h, q⟩
theorem rd_rep {p : Addr} {xs : List V} {k : Int} (h : H p = some (.lst xs)) (h0 : 0 ≤ k) (h1 : k ≤ 1000) (hl : xs.length * k.toNat ≤ 1000) (q : ∀ n, H n = none → Q (.ref n) (upd H n (.lst (List.replicate k.toNat xs).flatten))) : rRep (.ref p) (.int k) H Q :=
  ⟨p, k, xs, rfl, rfl, h, by omega, by omega, Nat.le_of_lt (small1000 hl), q⟩
theorem rd_index {K : PySem.W.Frag} {p : Addr} {ns : List Int} {m : Int} (hs : SqL K H p (ns.map V.int)) (hm : m ∈ ns) (q : Q (.int (ns.idxOf m : Nat)) H) : rIndex K (.ref p) [.int m] H Q := by
  have hlt : ns.idxOf m < ns.length := List.idxOf_lt_length_iff.mpr hm
  refine ⟨p, ns.map V.int, .int m, ns.idxOf m, .int m, rfl, rfl, hs, rfl, ?_, ?_, ?_, ?_, q⟩
  · rw [List.all_map]
    exact List.all_eq_true.mpr fun _ _ => rfl
  · rw [List.getElem?_map, List.getElem?_eq_getElem hlt, List.getElem_idxOf]
    rfl
  · show (m == m) = true
    exact beq_self_eq_true m
  · intro k z hk hz
    rw [List.getElem?_map, List.getElem?_eq_getElem (by omega)] at hz
    cases hz
    show (_ == m) = false
    have := List.not_of_lt_findIdx (p := (· == m)) (xs := ns) (i := k) hk
    simpa using this
theorem tab_succ (g : Nat → Int) (i : Nat) : (((List.range (i + 1)).map g).map V.int) = ((List.range i).map g).map V.int ++ [V.int (g i)] := by
  rw [List.range_succ, List.map_append, List.map_append]
  rfl
theorem tab_len (g : Nat → Int) (i : Nat) : (((List.range i).map g).map V.int).length = i := by
  rw [List.length_map, List.length_map, List.length_range]
theorem int_at {ns : List Int} {k : Nat} {z : Int} (h : ns[k]? = some z) : (ns.map V.int)[k]? = some (V.int z) := by
  rw [List.getElem?_map, h]
  rfl
theorem cut_to {ns : List Int} {k : Nat} : cutV (ns.map V.int) none (some (k : Int)) = (ns.take k).map V.int := by
  unfold cutV
  rw [HT.sIx_none, HT.sIx_nat, List.drop_zero, Nat.sub_zero, List.map_take, List.length_map]
  by_cases c : k ≤ ns.length
  · rw [Nat.min_eq_left c]
  · rw [Nat.min_eq_right (by omega), List.take_of_length_le (by rw [List.length_map]; exact Nat.le_refl _), List.take_of_length_le (by rw [List.length_map]; omega)]
theorem cut_from {ns : List Int} {k : Nat} : cutV (ns.map V.int) (some (k : Int)) none = (ns.drop k).map V.int := by
  unfold cutV
  rw [HT.sIx_none, HT.sIx_nat, List.map_drop, List.length_map]
  by_cases c : k ≤ ns.length
  · rw [Nat.min_eq_left c, List.take_of_length_le (by rw [List.length_drop, List.length_map]; exact Nat.le_refl _)]
  · rw [Nat.min_eq_right (by omega), List.drop_of_length_le (by rw [List.length_map]; exact Nat.le_refl _), List.drop_of_length_le (by rw [List.length_map]; omega), List.take_nil]
theorem cut_mid {ns : List Int} {a b : Nat} (h : a ≤ b) (hb : b ≤ ns.length) : cutV (ns.map V.int) (some (a : Int)) (some (b : Int)) = ((ns.drop a).take (b - a)).map V.int := by
  unfold cutV
  rw [HT.sIx_nat, HT.sIx_nat, List.length_map, Nat.min_eq_left (show a ≤ ns.length by omega), Nat.min_eq_left hb, List.map_take, List.map_drop]
end
/- rules whose reading names K alone (for what stands in a comprehension) -/
section
variable {X : Cx} {K : PySem.W.Frag}
theorem ixK (h : X.K = K) : IxR X (rIxL K) := by subst h; exact ix_list
theorem ixTK (h : X.K = K) : IxR X (rIxT K) := by subst h; exact ix_tup
theorem slK (h : X.K = K) : SlR X (rSlL K) := by subst h; exact sl_list
theorem sumK (h : X.K = K) (hc : X.calm = true) : CallR X (.builtin "sum") (rSum K) := by subst h; exact cr_sum hc
theorem lenK (h : X.K = K) : CallR X (.builtin "len") (rLenL K) := by subst h; exact call_lenL
theorem bt_sum : bootBuiltins "sum" = some (.builtin "sum") := by decide +kernel
end
section
variable {X : Cx} {σ : L2.St} {H : Hp} {Q : VK} {tr : TA} {D : Ends} {v : V} {p : Addr} {R : It → Hp → Prop}
def rIsN : R2 := fun x y H Q => y = .non ∧ Q (.bl (decide (x = .non))) H
def rNotN : R2 := fun x y H Q => y = .non ∧ Q (.bl (!decide (x = .non))) H
theorem opIsN : OpR X (compareOp .Is) rIsN := op_isN
theorem opNotN : OpR X (compareOp .IsNot) rNotN := op_notN
theorem rd_isNN (q : Q (.bl true) H) : rIsN .non .non H Q := ⟨rfl, q⟩
theorem rd_isNR (q : Q (.bl false) H) : rIsN (.ref p) .non H Q := ⟨rfl, q⟩
theorem rd_notNN (q : Q (.bl false) H) : rNotN .non .non H Q := ⟨rfl, q⟩
theorem rd_notNR (q : Q (.bl true) H) : rNotN (.ref p) .non H Q := ⟨rfl, q⟩
theorem rd_rng2 (q : tr σ H fun vs H1 => ∃ i j : Int, vs = [.int i, .int j] ∧ (-(2 ^ 62) ≤ i ∧ i < 2 ^ 62 ∧ -(2 ^ 62) ≤ j ∧ j < 2 ^ 62) ∧ R (Itr i (j - i).toNat) H1) : iRng2 tr σ H R := q
theorem rd_it {K : PySem.W.Frag} {tl : TE} (q : tl σ H fun x H1 => ∃ a, x = .ref a ∧ (∃ xs, SqT K H1 a xs) ∧ R (Itt K a) H1) : iTup K tl σ H R := q
end
/-- a statement of a block by what holds behind it -/
theorem rd_cut {t u : TS} {D : Ends} {σ : L2.St} {H : Hp} (P : L2.St → Hp → Prop) (h1 : ∀ U : L2.St → Hp → Prop, (∀ σ' H', P σ' H' → U σ' H') → t { D with nx := U } σ H) (h2 : ∀ σ' H', P σ' H' → u D σ' H') : tSeq t u D σ H := h1 (u D) h2
theorem ix_ok {n : Nat} {i : Int} (h0 : 0 ≤ i) (h1 : i < n) : ixN n i = some i.toNat := by
  unfold ixN
  rw [if_pos h0, if_pos (by omega)]
theorem cut_any (ns : List Int) (lo hi : Option Int) : ∃ ms : List Int, cutV (ns.map V.int) lo hi = ms.map V.int ∧ (∀ x ∈ ms, x ∈ ns) ∧ ms.length ≤ ns.length := by
  refine ⟨(ns.drop (HT.sIx ns.length 0 lo)).take (HT.sIx ns.length ns.length hi - HT.sIx ns.length 0 lo), ?_, fun x hx => List.mem_of_mem_drop (List.mem_of_mem_take hx), ?_⟩
  · unfold cutV
    rw [List.length_map, List.map_take, List.map_drop]
  · rw [List.length_take, List.length_drop]
    omega
theorem cut_len_from {ns ms : List Int} {k : Nat} {hi : Int} (h : cutV (ns.map V.int) (some (k : Int)) (some hi) = ms.map V.int) (h0 : 0 ≤ hi) : ms.length ≤ hi.toNat - k := by
  have := congrArg List.length h
  obtain ⟨j, rfl⟩ : ∃ j : Nat, hi = j := ⟨_, (Int.toNat_of_nonneg h0).symm⟩
  unfold cutV at this
  rw [HT.sIx_nat, HT.sIx_nat, List.length_take, List.length_drop, List.length_map, List.length_map] at this
  rw [Int.toNat_natCast]
  omega
end Eb
namespace Eb
open PySem PySem.Spec PyProof.Rows L2
local macro_rules | `(tactic| walk_at "rd") => `(tactic| (first
  | with_reducible refine rd_seq ?_ | with_reducible refine rd_asg ?_ | with_reducible refine rd_op ?_ | ((with_reducible refine' rd_var ?hrd ?_); (case hrd => rfl)) | with_reducible refine rd_c ?_
  | with_reducible refine rd_I0 ?_ | ((with_reducible refine rd_I (C := CDiv) ?hrd ?_); (case hrd => exact ⟨by decide, by decide⟩)) | ((with_reducible refine rd_I (C := fun _ j => 0 < j) ?hrd ?_); (case hrd => (first | omega | decide | assumption)))
  | ((with_reducible refine rd_I (C := CPow) ?hrd ?_); (case hrd => exact ⟨by decide, by decide, by decide⟩))
  | ((with_reducible refine rd_I (C := CMul) ?hrd ?_); (case hrd => (first | exact .inl ⟨by decide, by decide⟩ | exact .inr ⟨by decide, by decide⟩ | (unfold CMul; omega))))
  | with_reducible refine rd_U ?_ | with_reducible refine rd_un ?_ | with_reducible refine rd_eqI ?_ | with_reducible refine rd_neI ?_ | with_reducible refine rd_cons ?_ | with_reducible refine rd_nil ?_ | with_reducible refine rd_cb ?_
  | with_reducible refine rd_call ?_ | with_reducible refine rd_callS ?_ | with_reducible refine rd_test ?_ | with_reducible refine rd_tb ?_ | with_reducible refine rd_bl ?_ | with_reducible refine rd_and ?_ | with_reducible refine rd_or ?_
  | with_reducible refine rd_not ?_ | with_reducible refine rd_andV ?_ | with_reducible refine rd_orV ?_ | with_reducible refine rd_notV ?_ | with_reducible refine rd_ifE ?_ | with_reducible refine rd_gn ?_ | with_reducible refine rd_ret ?_
  | with_reducible refine rd_ifS ?_ | with_reducible refine rd_drop ?_ | with_reducible refine rd_next ?_ | with_reducible refine rd_tup ?_ | with_reducible refine rd_lst ?_ | with_reducible refine rd_sl ?_ | with_reducible refine rd_no ?_
  | ((with_reducible refine' rd_len ?hrd ?_); (case hrd => assumption)) | ((with_reducible refine' rd_lenT ?hrd ?_); (case hrd => assumption)) | with_reducible refine rd_int ?_ | with_reducible refine rd_min ?_ | with_reducible refine rd_isiII ?_ | with_reducible refine rd_isiIB ?_ | with_reducible refine rd_isiBB ?_ | with_reducible refine rd_isiS ?_ | ((with_reducible refine' rd_isiL ?hrd ?_); (case hrd => assumption)) | ((with_reducible refine' rd_isiT ?hrd ?_); (case hrd => assumption))
  | with_reducible refine rd_for ?_ | with_reducible refine rd_lc ?_ | with_reducible refine rd_tyes ?_ | with_reducible refine rd_rng1 ?_ | with_reducible refine rd_gsub ?_ | with_reducible refine rd_lrg ?_ | with_reducible refine rd_rg1 ?_ | with_reducible refine rd_eqZ ?_ | with_reducible refine rd_neZ ?_ | with_reducible refine rd_chain ?_ | with_reducible refine rd_m1 ?_ | with_reducible refine rd_isZ ?_ | ((with_reducible refine' rd_gtup ?hrd ?hrn ?_); (case hrd => assumption); (case hrn => rfl)) | with_reducible refine rd_gcons ?_ | with_reducible refine rd_gnil ?_ | with_reducible refine rd_is ?_ | with_reducible refine rd_isx ?_
  | with_reducible refine rd_il ?_ | with_reducible refine rd_part ?_ | with_reducible refine rd_partI ?_ | with_reducible refine rd_bm ?_ | with_reducible refine rd_bm0 ?_ | with_reducible refine rd_eqB ?_ | with_reducible refine rd_neB ?_ | with_reducible refine rd_isB ?_ | with_reducible refine rd_niB ?_
  | with_reducible refine rd_nt ?_ | with_reducible refine rd_nf ?_ | with_reducible refine iteT ?_ | with_reducible refine iteF ?_
  | ((with_reducible refine' rd_aug ?hrd ?_); (case hrd => rfl)) | with_reducible refine rd_ipI ?_ | with_reducible refine rd_par ?_ | with_reducible refine rd_two ?_ | with_reducible refine rd_izip ?_
  | with_reducible refine rd_isNN ?_ | with_reducible refine rd_isNR ?_ | with_reducible refine rd_notNN ?_ | with_reducible refine rd_notNR ?_ | with_reducible refine rd_rng2 ?_))
def topS (i : Nat) : Stmt := PySem.Challenge.pw_evenbeat_k02_stroke_numbers.main.body.getD i (.Pass ⟨0, 0, 0, 0⟩)
abbrev s_look_at_wheel : Stmt := topS 7
abbrev N_look_at_wheel : List Str := ["strokes", "places"]
theorem sc_look_at_wheel : FnScope N_look_at_wheel ["strokes", "places"] (defScope s_look_at_wheel) := ⟨rfl, rfl, rfl, by decide +kernel, rfl, by decide +kernel, by decide +kernel⟩
abbrev s_ahead : Stmt := topS 8
abbrev N_ahead : List Str := ["strokes", "places", "at"]
theorem sc_ahead : FnScope N_ahead ["strokes", "places", "at"] (defScope s_ahead) := ⟨rfl, rfl, rfl, by decide +kernel, rfl, by decide +kernel, by decide +kernel⟩
abbrev s_has_stroke : Stmt := topS 9
abbrev N_has_stroke : List Str := ["strokes", "places", "at"]
theorem sc_has_stroke : FnScope N_has_stroke ["strokes", "places", "at"] (defScope s_has_stroke) := ⟨rfl, rfl, rfl, by decide +kernel, rfl, by decide +kernel, by decide +kernel⟩
abbrev s_place_of : Stmt := topS 10
abbrev N_place_of : List Str := ["strokes", "places", "number"]
theorem sc_place_of : FnScope N_place_of ["strokes", "places", "number"] (defScope s_place_of) := ⟨rfl, rfl, rfl, by decide +kernel, rfl, by decide +kernel, by decide +kernel⟩
abbrev s_cell_at : Stmt := topS 12
abbrev N_cell_at : List Str := ["_law_script", "_law_k"]
theorem sc_cell_at : FnScope N_cell_at ["_law_script", "_law_k"] (defScope s_cell_at) := ⟨rfl, rfl, rfl, by decide +kernel, rfl, by decide +kernel, by decide +kernel⟩
abbrev s_whole : Stmt := topS 13
abbrev N_whole : List Str := ["_law_found"]
theorem sc_whole : FnScope N_whole ["_law_found"] (defScope s_whole) := ⟨rfl, rfl, rfl, by decide +kernel, rfl, by decide +kernel, by decide +kernel⟩
abbrev s_places : Stmt := topS 14
abbrev N_places : List Str := ["_law_cell"]
theorem sc_places : FnScope N_places ["_law_cell"] (defScope s_places) := ⟨rfl, rfl, rfl, by decide +kernel, rfl, by decide +kernel, by decide +kernel⟩
abbrev s_no_wheel : Stmt := topS 15
abbrev N_no_wheel : List Str := ["_law_cell", "_law_places_here", "_law_far"]
theorem sc_no_wheel : FnScope N_no_wheel ["_law_cell", "_law_places_here"] (defScope s_no_wheel) := ⟨rfl, rfl, rfl, by decide +kernel, rfl, by decide +kernel, by decide +kernel⟩
abbrev s_error : Stmt := topS 16
abbrev N_error : List Str := ["_law_strokes", "_law_places_here", "_law_number", "_law_error_here", "e"]
theorem sc_error : FnScope N_error ["_law_strokes", "_law_places_here", "_law_number"] (defScope s_error) := ⟨rfl, rfl, rfl, by decide +kernel, rfl, by decide +kernel, by decide +kernel⟩
abbrev s_error_asked : Stmt := topS 17
abbrev N_error_asked : List Str := ["_law_strokes", "_law_places_here", "_law_at", "_law_error_here", "e"]
theorem sc_error_asked : FnScope N_error_asked ["_law_strokes", "_law_places_here", "_law_at"] (defScope s_error_asked) := ⟨rfl, rfl, rfl, by decide +kernel, rfl, by decide +kernel, by decide +kernel⟩
abbrev s_no_wheel_told : Stmt := topS 18
abbrev N_no_wheel_told : List Str := ["_law_error_here"]
theorem sc_no_wheel_told : FnScope N_no_wheel_told ["_law_error_here"] (defScope s_no_wheel_told) := ⟨rfl, rfl, rfl, by decide +kernel, rfl, by decide +kernel, by decide +kernel⟩
abbrev s_stands : Stmt := topS 19
abbrev N_stands : List Str := ["_law_strokes", "_law_places_here", "_law_number", "_law_at", "_law_due", "_law_found"]
theorem sc_stands : FnScope N_stands ["_law_strokes", "_law_places_here", "_law_number"] (defScope s_stands) := ⟨rfl, rfl, rfl, by decide +kernel, rfl, by decide +kernel, by decide +kernel⟩
abbrev s_law : Stmt := topS 20
abbrev N_law : List Str := ["_law_script", "_law_places_here", "_law_strokes", "_law_cell", "_law_number", "_law_last", "_law_error_here", "_law_bad"]
theorem sc_law : FnScope N_law ["_law_script"] (defScope s_law) := ⟨rfl, rfl, rfl, by decide +kernel, rfl, by decide +kernel, by decide +kernel⟩
structure Txt (K : PySem.W.Frag) (mg : Str → Option Value) where
  f_look_at_wheel : Addr
  fd_look_at_wheel : FuncData
  F_look_at_wheel : Fun K "look_at_wheel" "look_at_wheel" s_look_at_wheel f_look_at_wheel fd_look_at_wheel
  k_look_at_wheel : PySem.W.keepIn K (.ref f_look_at_wheel) = true
  g_look_at_wheel : mg "look_at_wheel" = some (.ref f_look_at_wheel)
  b_look_at_wheel : Binds K fd_look_at_wheel ["strokes", "places"] []
  f_ahead : Addr
  fd_ahead : FuncData
  F_ahead : Fun K "ahead" "ahead" s_ahead f_ahead fd_ahead
  k_ahead : PySem.W.keepIn K (.ref f_ahead) = true
  g_ahead : mg "ahead" = some (.ref f_ahead)
  b_ahead : Binds K fd_ahead ["strokes", "places", "at"] []
  f_has_stroke : Addr
  fd_has_stroke : FuncData
  F_has_stroke : Fun K "has_stroke" "has_stroke" s_has_stroke f_has_stroke fd_has_stroke
  k_has_stroke : PySem.W.keepIn K (.ref f_has_stroke) = true
  g_has_stroke : mg "has_stroke" = some (.ref f_has_stroke)
  b_has_stroke : Binds K fd_has_stroke ["strokes", "places", "at"] []
  f_place_of : Addr
  fd_place_of : FuncData
  F_place_of : Fun K "place_of" "place_of" s_place_of f_place_of fd_place_of
  k_place_of : PySem.W.keepIn K (.ref f_place_of) = true
  g_place_of : mg "place_of" = some (.ref f_place_of)
  b_place_of : Binds K fd_place_of ["strokes", "places", "number"] []
  f_cell_at : Addr
  fd_cell_at : FuncData
  F_cell_at : Fun K "_law_cell_at" "_law_cell_at" s_cell_at f_cell_at fd_cell_at
  k_cell_at : PySem.W.keepIn K (.ref f_cell_at) = true
  g_cell_at : mg "_law_cell_at" = some (.ref f_cell_at)
  b_cell_at : Binds K fd_cell_at ["_law_script", "_law_k"] []
  f_whole : Addr
  fd_whole : FuncData
  F_whole : Fun K "_law_whole" "_law_whole" s_whole f_whole fd_whole
  k_whole : PySem.W.keepIn K (.ref f_whole) = true
  g_whole : mg "_law_whole" = some (.ref f_whole)
  b_whole : Binds K fd_whole ["_law_found"] []
  f_places : Addr
  fd_places : FuncData
  F_places : Fun K "_law_places" "_law_places" s_places f_places fd_places
  k_places : PySem.W.keepIn K (.ref f_places) = true
  g_places : mg "_law_places" = some (.ref f_places)
  b_places : Binds K fd_places ["_law_cell"] []
  f_no_wheel : Addr
  fd_no_wheel : FuncData
  F_no_wheel : Fun K "_law_no_wheel" "_law_no_wheel" s_no_wheel f_no_wheel fd_no_wheel
  k_no_wheel : PySem.W.keepIn K (.ref f_no_wheel) = true
  g_no_wheel : mg "_law_no_wheel" = some (.ref f_no_wheel)
  b_no_wheel : Binds K fd_no_wheel ["_law_cell", "_law_places_here"] []
  f_error : Addr
  fd_error : FuncData
  F_error : Fun K "_law_error" "_law_error" s_error f_error fd_error
  k_error : PySem.W.keepIn K (.ref f_error) = true
  g_error : mg "_law_error" = some (.ref f_error)
  b_error : Binds K fd_error ["_law_strokes", "_law_places_here", "_law_number"] []
  f_error_asked : Addr
  fd_error_asked : FuncData
  F_error_asked : Fun K "_law_error_asked" "_law_error_asked" s_error_asked f_error_asked fd_error_asked
  k_error_asked : PySem.W.keepIn K (.ref f_error_asked) = true
  g_error_asked : mg "_law_error_asked" = some (.ref f_error_asked)
  b_error_asked : Binds K fd_error_asked ["_law_strokes", "_law_places_here", "_law_at"] []
  f_no_wheel_told : Addr
  fd_no_wheel_told : FuncData
  F_no_wheel_told : Fun K "_law_no_wheel_told" "_law_no_wheel_told" s_no_wheel_told f_no_wheel_told fd_no_wheel_told
  k_no_wheel_told : PySem.W.keepIn K (.ref f_no_wheel_told) = true
  g_no_wheel_told : mg "_law_no_wheel_told" = some (.ref f_no_wheel_told)
  b_no_wheel_told : Binds K fd_no_wheel_told ["_law_error_here"] []
  f_stands : Addr
  fd_stands : FuncData
  F_stands : Fun K "_law_stands" "_law_stands" s_stands f_stands fd_stands
  k_stands : PySem.W.keepIn K (.ref f_stands) = true
  g_stands : mg "_law_stands" = some (.ref f_stands)
  b_stands : Binds K fd_stands ["_law_strokes", "_law_places_here", "_law_number"] []
  m_len : mg "len" = none
  m_isinstance : mg "isinstance" = none
  m_bool : mg "bool" = none
  m_int : mg "int" = none
  m_ValueError : mg "ValueError" = none
  c_BeatError : Addr
  gc_BeatError : mg "BeatError" = some (.ref c_BeatError)
  c_NoWheel : Addr
  gc_NoWheel : mg "NoWheel" = some (.ref c_NoWheel)
  c_NoStroke : Addr
  gc_NoStroke : mg "NoStroke" = some (.ref c_NoStroke)
  c_NoRow : Addr
  gc_NoRow : mg "NoRow" = some (.ref c_NoRow)
  c_Uneven : Addr
  gc_Uneven : mg "Uneven" = some (.ref c_Uneven)
  x_NoWheel : PySem.W.excIn K c_NoWheel [.type "ValueError", .type "Exception", .type "BaseException", .type "object"] "ValueError.__new__" = true
  kc_NoWheel : PySem.W.keepIn K (.ref c_NoWheel) = true
  sub_NoWheel : PySem.W.subIn K (.ref c_NoWheel) (.type "BaseException") = some true
  ty_NoWheel : PySem.W.typeIn K (.ref c_NoWheel) = some (.type "type")
  x_NoStroke : PySem.W.excIn K c_NoStroke [.type "ValueError", .type "Exception", .type "BaseException", .type "object"] "ValueError.__new__" = true
  kc_NoStroke : PySem.W.keepIn K (.ref c_NoStroke) = true
  sub_NoStroke : PySem.W.subIn K (.ref c_NoStroke) (.type "BaseException") = some true
  ty_NoStroke : PySem.W.typeIn K (.ref c_NoStroke) = some (.type "type")
  h_NoWheel : HeldC K c_NoWheel
  ve_NoWheel : PySem.W.kitOne K (.ref c_NoWheel) (.type "ValueError") = some true
  kit_NoWheel_BeatError : PySem.W.kitOne K (.ref c_NoWheel) (.ref c_BeatError) = some true
  exm_NoWheel : PySem.W.exmOne K (.ref c_NoWheel) (.ref c_BeatError) = some true
  kit_NoWheel_NoWheel : PySem.W.kitOne K (.ref c_NoWheel) (.ref c_NoWheel) = some true
  kit_NoWheel_NoStroke : PySem.W.kitOne K (.ref c_NoWheel) (.ref c_NoStroke) = some false
  kit_NoWheel_NoRow : PySem.W.kitOne K (.ref c_NoWheel) (.ref c_NoRow) = some false
  kit_NoWheel_Uneven : PySem.W.kitOne K (.ref c_NoWheel) (.ref c_Uneven) = some false
  h_NoStroke : HeldC K c_NoStroke
  ve_NoStroke : PySem.W.kitOne K (.ref c_NoStroke) (.type "ValueError") = some true
  kit_NoStroke_BeatError : PySem.W.kitOne K (.ref c_NoStroke) (.ref c_BeatError) = some true
  exm_NoStroke : PySem.W.exmOne K (.ref c_NoStroke) (.ref c_BeatError) = some true
  kit_NoStroke_NoWheel : PySem.W.kitOne K (.ref c_NoStroke) (.ref c_NoWheel) = some false
  kit_NoStroke_NoStroke : PySem.W.kitOne K (.ref c_NoStroke) (.ref c_NoStroke) = some true
  kit_NoStroke_NoRow : PySem.W.kitOne K (.ref c_NoStroke) (.ref c_NoRow) = some false
  kit_NoStroke_Uneven : PySem.W.kitOne K (.ref c_NoStroke) (.ref c_Uneven) = some false
theorem big {x : Int} (h : x.natAbs ≤ 4 * 10 ^ 60) : x.natAbs < 2 ^ 210 := Nat.lt_of_le_of_lt h (by decide)
theorem wider {x : Int} {n m : Nat} (h : x.natAbs < 2 ^ n) (l : n ≤ m) : x.natAbs < 2 ^ m := Nat.lt_of_lt_of_le h (Nat.pow_le_pow_right (by decide) l)
theorem div_small {x p : Int} {n : Nat} (h : x.natAbs < 2 ^ n) : (x / p).natAbs < 2 ^ n := Nat.lt_of_le_of_lt (Int.natAbs_ediv_le_natAbs x p) h
theorem one_more {x : Int} {n : Nat} (h : x.natAbs < 2 ^ n) : (x + 1).natAbs < 2 ^ (n + 1) := by
  have : 0 < 2 ^ n := Nat.two_pow_pos n
  rw [Nat.pow_succ]
  omega
theorem one_less {x : Int} {n : Nat} (h : x.natAbs < 2 ^ n) : (x - 1).natAbs < 2 ^ (n + 1) := by
  have : 0 < 2 ^ n := Nat.two_pow_pos n
  rw [Nat.pow_succ]
  omega
theorem add_small {x y : Int} {n : Nat} (h : x.natAbs < 2 ^ n) (k : y.natAbs < 2 ^ n) : (x + y).natAbs < 2 ^ (n + 1) := by
  have : 0 < 2 ^ n := Nat.two_pow_pos n
  rw [Nat.pow_succ]
  omega
/-! the sums of a wheel -/
theorem floor_le {x p n : Int} (hp : 0 < p) (h : x < (n + 1) * p) : x / p ≤ n := by
  have := (Int.ediv_lt_iff_lt_mul hp (a := x) (b := n + 1)).mpr h
  omega
theorem floor_ge {x p n : Int} (hp : 0 < p) (h : n * p ≤ x) : n ≤ x / p := (Int.le_ediv_iff_mul_le hp).mpr h
theorem floor_is {x p n : Int} (hp : 0 < p) (h : n * p ≤ x) (k : x < (n + 1) * p) : x / p = n := by
  have := floor_le hp k
  have := floor_ge hp h
  omega
theorem round_on {s a p : Int} (h : 1 ≤ p) : s * (a + p) / p = s * a / p + s := by
  rw [Int.mul_add, Int.add_mul_ediv_right _ _ (by omega)]
/-- the place of the stroke with the number n -/
theorem place_here {s p n : Int} (hs : 0 < s) (hsp : s ≤ p) :
    s * (((n + 1) * p - 1) / s) / p = n ∧ s * (((n + 1) * p - 1) / s + 1) / p = n + 1 := by
  have hp : 0 < p := by omega
  have e1 : (n + 1) * p = n * p + p := by rw [Int.add_mul, Int.one_mul]
  have e2 : (n + 1 + 1) * p = n * p + p + p := by rw [Int.add_mul, Int.add_mul, Int.one_mul]
  generalize hX : (n + 1) * p - 1 = X
  have l1 : s * (X / s) ≤ X := Int.mul_ediv_self_le (by omega)
  have l2 : X < s * (X / s) + s := Int.lt_mul_ediv_self_add hs
  have e3 : s * (X / s + 1) = s * (X / s) + s := by rw [Int.mul_add, Int.mul_one]
  refine ⟨floor_is hp ?_ ?_, floor_is hp ?_ ?_⟩
  · omega
  · omega
  · omega
  · omega
theorem floor_add {x y p : Int} (hp : 0 < p) : x / p + y / p ≤ (x + y) / p ∧ (x + y) / p ≤ x / p + y / p + 1 ∧ (y % p = 0 → (x + y) / p = x / p + y / p) := by
  have a1 := Int.mul_ediv_self_le (x := x) (k := p) (by omega)
  have a2 := Int.lt_mul_ediv_self_add (x := x) hp
  have b1 := Int.mul_ediv_self_le (x := y) (k := p) (by omega)
  have b2 := Int.lt_mul_ediv_self_add (x := y) hp
  have e : (x / p + y / p) * p = p * (x / p) + p * (y / p) := by rw [Int.add_mul, Int.mul_comm, Int.mul_comm (y / p)]
  have e1 : (x / p + y / p + 1) * p = p * (x / p) + p * (y / p) + p := by rw [Int.add_mul _ 1, e, Int.one_mul]
  have e2 : (x / p + y / p + 1 + 1) * p = p * (x / p) + p * (y / p) + p + p := by rw [Int.add_mul _ 1, e1, Int.one_mul]
  refine ⟨floor_ge hp ?_, floor_le hp ?_, fun z => floor_is hp ?_ ?_⟩
  · omega
  · omega
  · omega
  · have := Int.mul_ediv_add_emod y p
    omega
/-- one place on: no stroke more or one -/
theorem one_on {s p a : Int} (hp : 0 < p) (h0 : 0 ≤ s) (hs : s ≤ p) : s * a / p ≤ s * (a + 1) / p ∧ s * (a + 1) / p ≤ s * a / p + 1 := by
  have a1 := Int.mul_ediv_self_le (x := s * a) (k := p) (by omega)
  have a2 := Int.lt_mul_ediv_self_add (x := s * a) hp
  have e : s * (a + 1) = s * a + s := by rw [Int.mul_add, Int.mul_one]
  have e1 : s * a / p * p = p * (s * a / p) := Int.mul_comm _ _
  have e2 : (s * a / p + 1 + 1) * p = p * (s * a / p) + p + p := by rw [Int.add_mul, Int.add_mul, Int.one_mul, e1]
  exact ⟨floor_ge hp (by omega), floor_le hp (by omega)⟩
/-- the first and the last stroke of a stretch stand within it -/
theorem stretch_ends {s p a w : Int} (hp : 0 < p) (hs : 0 < s) (hm : s * a / p < s * (a + w) / p) :
    a ≤ ((s * a / p + 1) * p - 1) / s ∧ ((s * (a + w) / p - 1 + 1) * p - 1) / s < a + w ∧ ((s * a / p + 1) * p - 1) / s ≤ ((s * (a + w) / p - 1 + 1) * p - 1) / s := by
  have a2 := Int.lt_mul_ediv_self_add (x := s * a) hp
  have b1 := Int.mul_ediv_self_le (x := s * (a + w)) (k := p) (by omega)
  have e1 : (s * a / p + 1) * p = p * (s * a / p) + p := by rw [Int.add_mul, Int.one_mul, Int.mul_comm]
  have e2 : (s * (a + w) / p - 1 + 1) * p = p * (s * (a + w) / p) := by rw [Int.sub_add_cancel, Int.mul_comm]
  refine ⟨?_, ?_, ?_⟩
  · rw [Int.le_ediv_iff_mul_le hs, Int.mul_comm a s]
    omega
  · rw [Int.ediv_lt_iff_lt_mul hs, Int.mul_comm (a + w) s]
    omega
  · refine Int.ediv_le_ediv hs ?_
    have := Int.mul_le_mul_of_nonneg_right (show s * a / p + 1 ≤ s * (a + w) / p - 1 + 1 by omega) (show 0 ≤ p by omega)
    omega
section
variable {P : Program} {w : World} {K : PySem.W.Frag} {mg : Str → Option Value} {base : Heap}
/-! ### the program -/
def Wheel (s p : Int) : Prop := ¬ p < 1 ∧ ¬ s < 0 ∧ ¬ s > p
def sp_look (C : Addr) : Sp := fun vs H Q E => ∃ (s p : Int), vs = [.int s, .int p] ∧ (¬ Wheel s p → E (.ref C) none H) ∧ (Wheel s p → Q .non H)
theorem ok_look_at_wheel (T : Txt K mg) : FnOk P w K mg base (L2.CX P w) 1 T.f_look_at_wheel T.fd_look_at_wheel ["strokes", "places"] (sp_look T.c_NoWheel) := by
  refine T.F_look_at_wheel.okX sc_look_at_wheel (fun vs H Q E h => ?_) (fun cdv A outer s H vs Q E hr h => ?_)
  · obtain ⟨s, p, rfl, _⟩ := h
    rfl
  · obtain ⟨s, p, rfl, e, q⟩ := h
    refine ⟨_, (pss_one (ps_if (PW.pt (pw_or (pt_cmpR op_lt (pv 1) pe_int (nomark _)) (pw_or (pt_cmpR op_lt (pv 0) pe_int (nomark _)) (pw_or1 (pt_cmpR op_gt (pv 0) (pv 1) (nomark _))))))
      (pss_one (ps_raise rfl (takes_of rfl rfl rfl rfl) (pmk_own PySem.F.excBase_ValueError T.x_NoWheel T.gc_NoWheel T.kc_NoWheel (raises_own T.sub_NoWheel T.ty_NoWheel) rfl)))
      pss_nil)), ?_⟩
    repeat walk_at "rd"
    refine rd_split (fun c => ?_) fun c => ?_
    · exact e fun z => z.1 c
    repeat walk_at "rd"
    refine rd_split (fun c1 => ?_) fun c1 => ?_
    · exact e fun z => z.2.1 c1
    repeat walk_at "rd"
    refine rd_split (fun c2 => ?_) fun c2 => ?_
    · exact e fun z => z.2.2 c2
    exact q ⟨c, c1, c2⟩
def sp_ahead (C : Addr) : Sp := fun vs H Q E => ∃ (s p a : Int), vs = [.int s, .int p, .int a] ∧ (¬ Wheel s p → E (.ref C) none H) ∧ (Wheel s p → p.natAbs < 2 ^ 210 ∧ a.natAbs < 2 ^ 450 ∧ Q (.int (s * a / p)) H)
theorem ok_ahead (T : Txt K mg) : FnOk P w K mg base (L2.CX P w) 2 T.f_ahead T.fd_ahead ["strokes", "places", "at"] (sp_ahead T.c_NoWheel) := by
  refine T.F_ahead.okX sc_ahead (fun vs H Q E h => ?_) (fun cdv A outer s H vs Q E hr h => ?_)
  · obtain ⟨s, p, a, rfl, _⟩ := h
    rfl
  · obtain ⟨s, p, a, rfl, e, q⟩ := h
    refine ⟨_, (pss_cons (ps_expr (pe_callS (ok_look_at_wheel T) hr (by rfl) T.g_look_at_wheel T.k_look_at_wheel T.b_look_at_wheel (fun σ => passAt (takes_of rfl rfl rfl rfl) σ) (pa_cons (pv 0) (pa_cons (pv 1) pa_nil))))
    (pss_one (ps_ret (pe_op op_fdivW (pe_op op_mulW (pv 0) (pv 2)) (pv 1))))), ?_⟩
    repeat walk_at "rd"
    refine ⟨s, p, rfl, e, fun hw => ?_⟩
    obtain ⟨bp, ba, q⟩ := q hw
    repeat walk_at "rd"
    have bs : s.natAbs < 2 ^ 210 := wide_le (by have := hw.2.1; omega) (show s ≤ p by have := hw.2.2; omega) bp
    refine rd_I (wide_mul bs ba (by decide) (by decide) (by decide)) ?_
    repeat walk_at "rd"
    exact rd_I (wide_div (by have := hw.1; omega) bp (by decide) (by decide)) q
def sp_has (C : Addr) : Sp := fun vs H Q E => ∃ (s p a : Int), vs = [.int s, .int p, .int a] ∧ (¬ Wheel s p → E (.ref C) none H) ∧ (Wheel s p → p.natAbs < 2 ^ 210 ∧ a.natAbs < 2 ^ 440 ∧ Q (.bl (decide (s * a / p < s * (a + 1) / p))) H)
theorem ok_has_stroke (T : Txt K mg) : FnOk P w K mg base (L2.CX P w) 3 T.f_has_stroke T.fd_has_stroke ["strokes", "places", "at"] (sp_has T.c_NoWheel) := by
  refine T.F_has_stroke.okX sc_has_stroke (fun vs H Q E h => ?_) (fun cdv A outer s H vs Q E hr h => ?_)
  · obtain ⟨s, p, a, rfl, _⟩ := h
    rfl
  · obtain ⟨s, p, a, rfl, e, q⟩ := h
    refine ⟨_, (pss_one (ps_ret (pe_cmpR op_lt (pe_callS (ok_ahead T) hr (by rfl) T.g_ahead T.k_ahead T.b_ahead (fun σ => passAt (takes_of rfl rfl rfl rfl) σ) (pa_cons (pv 0) (pa_cons (pv 1) (pa_cons (pv 2) pa_nil)))) (pe_callS (ok_ahead T) hr (by rfl) T.g_ahead T.k_ahead T.b_ahead (fun σ => passAt (takes_of rfl rfl rfl rfl) σ) (pa_cons (pv 0) (pa_cons (pv 1) (pa_cons (pe_op op_add (pv 2) pe_int) pa_nil)))) (nomark _)))), ?_⟩
    repeat walk_at "rd"
    refine ⟨s, p, a, rfl, e, fun hw => ?_⟩
    obtain ⟨bp, ba, q⟩ := q hw
    have b1 : a.natAbs < 2 ^ 450 := Nat.lt_trans ba (Nat.pow_lt_pow_right (by decide) (by decide))
    have b2 : (a + 1).natAbs < 2 ^ 450 := Nat.lt_of_lt_of_le (one_more ba) (Nat.pow_le_pow_right (by decide) (by decide))
    refine ⟨bp, b1, ?_⟩
    repeat walk_at "rd"
    refine ⟨s, p, a + 1, rfl, e, fun _ => ⟨bp, b2, ?_⟩⟩
    repeat walk_at "rd"
    exact q
def sp_place (C S : Addr) : Sp := fun vs H Q E => ∃ (s p n : Int), vs = [.int s, .int p, .int n] ∧ (¬ Wheel s p → E (.ref C) none H) ∧
  (Wheel s p → (s = 0 → E (.ref S) none H) ∧ (s ≠ 0 → p.natAbs < 2 ^ 210 ∧ n.natAbs < 2 ^ 440 ∧ Q (.int (((n + 1) * p - 1) / s)) H))
theorem ok_place_of (T : Txt K mg) : FnOk P w K mg base (L2.CX P w) 2 T.f_place_of T.fd_place_of ["strokes", "places", "number"] (sp_place T.c_NoWheel T.c_NoStroke) := by
  refine T.F_place_of.okX sc_place_of (fun vs H Q E h => ?_) (fun cdv A outer s H vs Q E hr h => ?_)
  · obtain ⟨s, p, n, rfl, _⟩ := h
    rfl
  · obtain ⟨s, p, n, rfl, e, q⟩ := h
    refine ⟨_, (pss_cons (ps_expr (pe_callS (ok_look_at_wheel T) hr (by rfl) T.g_look_at_wheel T.k_look_at_wheel T.b_look_at_wheel (fun σ => passAt (takes_of rfl rfl rfl rfl) σ) (pa_cons (pv 0) (pa_cons (pv 1) pa_nil))))
    (pss_cons (ps_if (pt_cmpR op_eq (pv 0) pe_int (nomark _))
      (pss_one (ps_raise rfl (takes_of rfl rfl rfl rfl) (pmk_own PySem.F.excBase_ValueError T.x_NoStroke T.gc_NoStroke T.kc_NoStroke (raises_own T.sub_NoStroke T.ty_NoStroke) rfl)))
      pss_nil)
    (pss_one (ps_ret (pe_op op_fdivW (pe_op op_sub (pe_op op_mulW (pe_op op_add (pv 2) pe_int) (pv 1)) pe_int) (pv 0)))))), ?_⟩
    repeat walk_at "rd"
    refine ⟨s, p, rfl, e, fun hw => ?_⟩
    obtain ⟨q0, q⟩ := q hw
    repeat walk_at "rd"
    refine rd_split (fun c => ?_) fun c => ?_
    · exact q0 (V.int.inj c)
    have c1 : s ≠ 0 := fun z => c (by rw [z])
    obtain ⟨bp, bn, q⟩ := q c1
    repeat walk_at "rd"
    have bs : s.natAbs < 2 ^ 210 := wide_le (by have := hw.2.1; omega) (show s ≤ p by have := hw.2.2; omega) bp
    refine rd_I (wide_mul (one_more bn) bp (by decide) (by decide) (by decide)) ?_
    repeat walk_at "rd"
    exact rd_I (wide_div (by have := hw.2.1; omega) bs (by decide) (by decide)) q
def cell (ns : List Int) (k : Nat) : Int := ns.getD k 0
def sp_cell_at (K : PySem.W.Frag) : Sp := fun vs H Q _ => ∃ (a : Addr) (ns : List Int) (k : Nat), vs = [.ref a, .int k] ∧ SqL K H a (ns.map V.int) ∧ Q (.int (cell ns k)) H
theorem ok_cell_at (T : Txt K mg) : FnOk P w K mg base CX0 1 T.f_cell_at T.fd_cell_at ["_law_script", "_law_k"] (sp_cell_at K) := by
  refine T.F_cell_at.ok sc_cell_at (fun vs H Q E h => ?_) (fun cdv A outer s H vs Q E hr h => ?_)
  · obtain ⟨a, ns, k, rfl, _⟩ := h
    rfl
  · obtain ⟨a, ns, k, rfl, hS, q⟩ := h
    refine ⟨_, (pss_cons (ps_if (pt_cmpR op_lt (pv 1) (pe_callB call_lenL (by rfl) T.m_len PySem.boot_len (pa_cons (pv 0) pa_nil)) (nomark _))
      (pss_one (ps_ret (pe_ix ix_list (pv 0) (pv 1) (fun _ _ => rfl))))
      pss_nil)
    (pss_one (ps_ret pe_int))), ?_⟩
    repeat walk_at "rd"
    rw [List.length_map]
    refine rd_split (fun c => ?_) fun c => ?_
    · have hk : k < ns.length := by omega
      repeat walk_at "rd"
      refine rd_ixL hS (atI_nat (j := k) (by rw [List.getElem?_map, List.getElem?_eq_getElem hk]; rfl)) ?_
      have e : cell ns k = ns[k] := by
        unfold cell
        rw [List.getD_eq_getElem?_getD, List.getElem?_eq_getElem hk]
        rfl
      rw [e] at q
      exact q
    · have hk : ns.length ≤ k := by omega
      have e : cell ns k = 0 := by
        unfold cell
        rw [List.getD_eq_getElem?_getD, List.getElem?_eq_none hk]
        rfl
      rw [e] at q
      repeat walk_at "rd"
      exact q
def sp_whole : Sp := fun vs H Q _ => ∃ (i : Int), vs = [.int i] ∧ Q (.bl true) H
theorem ok_whole (T : Txt K mg) : FnOk P w K mg base CX0 1 T.f_whole T.fd_whole ["_law_found"] sp_whole := by
  refine T.F_whole.ok sc_whole (fun vs H Q E h => ?_) (fun cdv A outer s H vs Q E hr h => ?_)
  · obtain ⟨i, rfl, _⟩ := h
    rfl
  · obtain ⟨i, rfl, q⟩ := h
    refine ⟨_, (pss_one (ps_ret (pe_and (pe_callB call_isi (by rfl) T.m_isinstance (by decide +kernel) (pa_cons (pv 0) (pa_cons (pe_bltn (v := .ty "int") (by rfl) T.m_int (by decide +kernel) rfl) pa_nil))) (pe_one (pe_not (pe_callB call_isi (by rfl) T.m_isinstance (by decide +kernel) (pa_cons (pv 0) (pa_cons (pe_bltn (v := .ty "bool") (by rfl) T.m_bool (by decide +kernel) rfl) pa_nil)))))))), ?_⟩
    repeat walk_at "rd"
    exact q
def placesOf (c : Int) : Int := if c % 3 = 1 then 1 + c / 3 % 9 else 1 + c / 3 % 10 ^ 60
theorem placesOf_in (c : Int) : 1 ≤ placesOf c ∧ placesOf c ≤ 10 ^ 60 := by
  unfold placesOf
  split <;> omega
def sp_places : Sp := fun vs H Q _ => ∃ (c : Int), vs = [.int c] ∧ Q (.int (placesOf c)) H
theorem ok_places (T : Txt K mg) : FnOk P w K mg base CX0 1 T.f_places T.fd_places ["_law_cell"] sp_places := by
  refine T.F_places.ok sc_places (fun vs H Q E h => ?_) (fun cdv A outer s H vs Q E hr h => ?_)
  · obtain ⟨i, rfl, _⟩ := h
    rfl
  · obtain ⟨i, rfl, q⟩ := h
    refine ⟨_, (pss_cons (ps_if (pt_cmpR op_eq (pe_op op_mod (pv 0) pe_int) pe_int (nomark _))
      (pss_one (ps_ret (pe_op op_add pe_int (pe_op op_mod (pe_op op_fdiv (pv 0) pe_int) pe_int))))
      pss_nil)
    (pss_one (ps_ret (pe_op op_add pe_int (pe_op op_mod (pe_op op_fdiv (pv 0) pe_int) (pe_op op_pow pe_int pe_int)))))), ?_⟩
    repeat walk_at "rd"
    refine rd_split (fun c => ?_) fun c => ?_
    · have c1 := V.int.inj c
      unfold placesOf at q
      rw [if_pos c1] at q
      repeat walk_at "rd"
      exact q
    · have c1 : ¬ i % 3 = 1 := fun z => c (by rw [z])
      unfold placesOf at q
      rw [if_neg c1] at q
      repeat walk_at "rd"
      exact q
theorem cut_int {ns : List Int} {lo hi : Option Int} {i : Nat} {y : V} (h : (cutV (ns.map V.int) lo hi)[i]? = some y) : ∃ z, y = V.int z := by
  have m := List.mem_of_getElem? h
  unfold cutV at m
  have m2 := List.mem_of_mem_drop (List.mem_of_mem_take m)
  obtain ⟨z, _, e⟩ := List.mem_map.mp m2
  exact ⟨z, e.symm⟩
def sp_no_wheel : Sp := fun vs H Q _ => ∃ (c p : Int), vs = [.int c, .int p] ∧ 1 ≤ p ∧ p ≤ 10 ^ 60 ∧
  ∀ (t : Addr) (s' p' : Int) H', Same H H' → H t = none → H' t = some (.tup [.int s', .int p']) → ¬ Wheel s' p' → p'.natAbs ≤ 10 ^ 60 → Q (.ref t) H'
theorem ok_no_wheel (T : Txt K mg) : FnOk P w K mg base CX0 1 T.f_no_wheel T.fd_no_wheel ["_law_cell", "_law_places_here"] sp_no_wheel := by
  refine T.F_no_wheel.ok sc_no_wheel (fun vs H Q E h => ?_) (fun cdv A outer s H vs Q E hr h => ?_)
  · obtain ⟨i, p, rfl, _⟩ := h
    rfl
  · obtain ⟨i, p, rfl, h1, h2, q⟩ := h
    refine ⟨_, (pss_cons (ps_set (i := 2) sc_no_wheel.nd rfl (Or.inl rfl) (pe_op op_mod (pe_op op_fdiv (pv 0) pe_int) (pe_op op_pow pe_int pe_int)))
    (pss_cons (ps_if (pt_cmpR op_eq (pe_op op_mod (pv 0) pe_int) pe_int (nomark _))
      (pss_one (ps_ret (pe_tup (pa_cons pe_int (pa_cons (pe_op op_sub pe_int (pv 2)) pa_nil)))))
      pss_nil)
    (pss_cons (ps_if (pt_cmpR op_eq (pe_op op_mod (pv 0) pe_int) pe_int (nomark _))
      (pss_one (ps_ret (pe_tup (pa_cons (pe_op op_add (pe_op op_add (pv 1) pe_int) (pv 2)) (pa_cons (pv 1) pa_nil)))))
      pss_nil)
    (pss_one (ps_ret (pe_tup (pa_cons (pe_op op_sub (pe_un un_neg pe_int) (pv 2)) (pa_cons (pv 1) pa_nil)))))))), ?_⟩
    repeat walk_at "rd"
    have far0 : 0 ≤ i / 3 % 10 ^ 60 ∧ i / 3 % 10 ^ 60 < 10 ^ 60 := by omega
    refine rd_split (fun c => ?_) fun c => ?_
    · repeat walk_at "rd"
      refine ⟨by show 2 ≤ sizeLine; decide, fun t nt => ?_⟩
      refine q t _ _ _ (same_new nt) nt upd_same (fun z => ?_) ?_
      · have := z.1
        have h3 : (0 : Int) - i / 3 % 10 ^ (60 : Int).toNat = 0 - i / 3 % 10 ^ 60 := rfl
        omega
      · have h3 : (0 : Int) - i / 3 % 10 ^ (60 : Int).toNat = 0 - i / 3 % 10 ^ 60 := rfl
        rw [h3]
        omega
    · repeat walk_at "rd"
      have h3 : i / 3 % 10 ^ (60 : Int).toNat = i / 3 % 10 ^ 60 := rfl
      refine rd_split (fun c => ?_) fun c => ?_
      · repeat walk_at "rd"
        refine ⟨by show 2 ≤ sizeLine; decide, fun t nt => ?_⟩
        refine q t _ _ _ (same_new nt) nt upd_same (fun z => ?_) ?_
        · have := z.2.2
          rw [h3] at this
          omega
        · omega
      · repeat walk_at "rd"
        refine ⟨by show 2 ≤ sizeLine; decide, fun t nt => ?_⟩
        refine q t _ _ _ (same_new nt) nt upd_same (fun z => ?_) ?_
        · have := z.2.1
          rw [h3] at this
          omega
        · omega

/-- place_of, has_stroke asked what they refuse: the exception is handed back -/
def sp_error (CW CS : Addr) : Sp := fun vs H Q _ => ∃ (s p n : Int) (C : Addr), vs = [.int s, .int p, .int n] ∧ ((C = CW ∧ ¬ Wheel s p) ∨ (C = CS ∧ Wheel s p ∧ s = 0)) ∧ ∀ x H', Same H H' → Stood H' x C none → Q (.ref x) H'
theorem ok_error (T : Txt K mg) : FnOk P w K mg base CX0 3 T.f_error T.fd_error ["_law_strokes", "_law_places_here", "_law_number"] (sp_error T.c_NoWheel T.c_NoStroke) := by
  refine T.F_error.ok sc_error (fun vs H Q E h => ?_) (fun cdv A outer s H vs Q E hr h => ?_)
  · obtain ⟨s, p, n, C, rfl, _⟩ := h
    rfl
  · obtain ⟨s, p, n, C, rfl, hb, q⟩ := h
    refine ⟨_, (pss_cons (ps_set (i := 3) sc_error.nd rfl (Or.inl rfl) pe_non)
    (pss_cons (ps_try_held (i := 4) (j := 3) rfl rfl rfl sc_error.nd rfl rfl rfl (Or.inl rfl) (Or.inr rfl) ⟨rfl, by decide, Or.inl T.gc_BeatError⟩ (by decide) (by decide) (fun W pn xe tk _ => (pss_one (ps_expr (pe_callS (ok_place_of T) hr (by rfl) T.g_place_of T.k_place_of T.b_place_of (fun σ => passAt tk σ) (pa_cons (pv 0) (pa_cons (pv 1) (pa_cons (pv 2) pa_nil))))))))
    (pss_one (ps_ret (pv 3))))), ?_⟩
    repeat walk_at "rd"
    rcases hb with ⟨rfl, hb⟩ | ⟨rfl, hw, h0⟩
    · refine ⟨s, p, n, rfl, fun _ => ⟨T.exm_NoWheel, fun x nx => ?_⟩, fun hw => absurd hw hb⟩
      repeat walk_at "rd"
      exact q _ _ (same_new nx) (stood_new nx)
    · refine ⟨s, p, n, rfl, fun hb => absurd hw hb, fun _ => ⟨fun _ => ⟨T.exm_NoStroke, fun x nx => ?_⟩, fun z => absurd h0 z⟩⟩
      repeat walk_at "rd"
      exact q _ _ (same_new nx) (stood_new nx)
def sp_error_asked (CW : Addr) : Sp := fun vs H Q _ => ∃ (s p n : Int), vs = [.int s, .int p, .int n] ∧ ¬ Wheel s p ∧ ∀ x H', Same H H' → Stood H' x CW none → Q (.ref x) H'
theorem ok_error_asked (T : Txt K mg) : FnOk P w K mg base CX0 4 T.f_error_asked T.fd_error_asked ["_law_strokes", "_law_places_here", "_law_at"] (sp_error_asked T.c_NoWheel) := by
  refine T.F_error_asked.ok sc_error_asked (fun vs H Q E h => ?_) (fun cdv A outer s H vs Q E hr h => ?_)
  · obtain ⟨s, p, n, rfl, _⟩ := h
    rfl
  · obtain ⟨s, p, n, rfl, hb, q⟩ := h
    refine ⟨_, (pss_cons (ps_set (i := 3) sc_error_asked.nd rfl (Or.inl rfl) pe_non)
    (pss_cons (ps_try_held (i := 4) (j := 3) rfl rfl rfl sc_error_asked.nd rfl rfl rfl (Or.inl rfl) (Or.inr rfl) ⟨rfl, by decide, Or.inl T.gc_BeatError⟩ (by decide) (by decide) (fun W pn xe tk _ => (pss_one (ps_expr (pe_callS (ok_has_stroke T) hr (by rfl) T.g_has_stroke T.k_has_stroke T.b_has_stroke (fun σ => passAt tk σ) (pa_cons (pv 0) (pa_cons (pv 1) (pa_cons (pv 2) pa_nil))))))))
    (pss_one (ps_ret (pv 3))))), ?_⟩
    repeat walk_at "rd"
    refine ⟨s, p, n, rfl, fun _ => ⟨T.exm_NoWheel, fun x nx => ?_⟩, fun hw => absurd hw hb⟩
    repeat walk_at "rd"
    exact q _ _ (same_new nx) (stood_new nx)
def sp_told (CW : Addr) : Sp := fun vs H Q _ => ∃ x, vs = [.ref x] ∧ Stood H x CW none ∧ ∀ H', Same H H' → Q (.bl true) H'
theorem ok_no_wheel_told (T : Txt K mg) : FnOk P w K mg base CX0 1 T.f_no_wheel_told T.fd_no_wheel_told ["_law_error_here"] (sp_told T.c_NoWheel) := by
  refine T.F_no_wheel_told.ok sc_no_wheel_told (fun vs H Q E h => ?_) (fun cdv A outer s H vs Q E hr h => ?_)
  · obtain ⟨x, rfl, _⟩ := h
    rfl
  · obtain ⟨x, rfl, st, q⟩ := h
    refine ⟨_, (pss_cons (ps_if (PW.pt (pw_or (pt_not (pt_val (pe_callB call_isH (by rfl) T.m_isinstance (by decide +kernel) (pa_cons (pv 0) (pa_cons (pe_glob (v := .ref T.c_NoWheel) (by rfl) T.gc_NoWheel rfl) pa_nil))))) (pw_or1 (pt_not (pt_val (pe_callB call_isH (by rfl) T.m_isinstance (by decide +kernel) (pa_cons (pv 0) (pa_cons (pe_bltn (v := .ty "ValueError") (by rfl) T.m_ValueError (by decide +kernel) rfl) pa_nil))))))))
      (pss_one (ps_ret pe_bl))
      pss_nil)
    (pss_one (ps_ret (pe_not (pe_callB call_isHT (by rfl) T.m_isinstance (by decide +kernel) (pa_cons (pv 0) (pa_cons (pe_tup (pa_cons (pe_glob (v := .ref T.c_NoRow) (by rfl) T.gc_NoRow rfl) (pa_cons (pe_glob (v := .ref T.c_NoStroke) (by rfl) T.gc_NoStroke rfl) (pa_cons (pe_glob (v := .ref T.c_Uneven) (by rfl) T.gc_Uneven rfl) pa_nil)))) pa_nil))))))), ?_⟩
    repeat walk_at "rd"
    refine rd_isH st T.h_NoWheel (.own _) T.kit_NoWheel_NoWheel ?_
    repeat walk_at "rd"
    refine rd_isH st T.h_NoWheel (.ty _) T.ve_NoWheel ?_
    repeat walk_at "rd"
    refine ⟨by show 3 ≤ sizeLine; decide, fun t nt => ?_⟩
    repeat walk_at "rd"
    refine rd_isHT (st.to nt) T.h_NoWheel upd_same (.cons (.own _) (.cons (.own _) (.cons (.own _) .nil))) (kitAny_cons T.kit_NoWheel_NoRow (fun _ => kitAny_cons T.kit_NoWheel_NoStroke (fun _ => kitAny_cons T.kit_NoWheel_Uneven (fun _ => kitAny_nil) (fun z => nomatch z)) (fun z => nomatch z)) (fun z => nomatch z)) ?_
    repeat walk_at "rd"
    exact q _ (same_new nt)
def sp_stands : Sp := fun vs H Q _ => ∃ (s p n : Int), vs = [.int s, .int p, .int n] ∧ 1 ≤ s ∧ s ≤ p ∧ p ≤ 10 ^ 60 ∧ n.natAbs ≤ 10 ^ 60 ∧ Q (.bl true) H
theorem ok_stands (T : Txt K mg) : FnOk P w K mg base CX0 4 T.f_stands T.fd_stands ["_law_strokes", "_law_places_here", "_law_number"] sp_stands := by
  refine T.F_stands.ok sc_stands (fun vs H Q E h => ?_) (fun cdv A outer s H vs Q E hr h => ?_)
  · obtain ⟨s, p, n, rfl, _⟩ := h
    rfl
  · obtain ⟨s, p, n, rfl, h1, h2, hp, hn, q⟩ := h
    have hw : Wheel s p := ⟨by omega, by omega, by omega⟩
    have p0 : 0 < p := by omega
    have bp : p.natAbs < 2 ^ 210 := big (by omega)
    have bs : s.natAbs < 2 ^ 210 := big (by omega)
    have bn : n.natAbs < 2 ^ 210 := big (by omega)
    have bat : (((n + 1) * p - 1) / s).natAbs < 2 ^ 422 := div_small (one_less (wide_lt (one_more bn) bp))
    obtain ⟨k1, k2⟩ := place_here (n := n) (s := s) (p := p) (by omega) h2
    refine ⟨_, (pss_cons (ps_set (i := 3) sc_stands.nd rfl (Or.inl rfl) (pe_call (ok_place_of T) (hr.mono (by decide)) (by rfl) T.g_place_of T.k_place_of T.b_place_of .nil passL (pa_cons (pv 0) (pa_cons (pv 1) (pa_cons (pv 2) pa_nil)))))
    (pss_cons (ps_if (PW.pt (pw_or (pt_not (pt_val (pe_call (ok_whole T) (hr.mono (by decide)) (by rfl) T.g_whole T.k_whole T.b_whole .nil pass0 (pa_cons (pv 3) pa_nil)))) (pw_or (pt_cmpR op_ne (pe_op op_fdivW (pe_op op_mulW (pv 0) (pv 3)) (pv 1)) (pv 2) (nomark _)) (pw_or1 (pt_cmpR op_ne (pe_op op_fdivW (pe_op op_mulW (pv 0) (pe_op op_add (pv 3) pe_int)) (pv 1)) (pe_op op_add (pv 2) pe_int) (nomark _))))))
      (pss_one (ps_ret pe_bl))
      pss_nil)
    (pss_cons (ps_if (pt_cmpR op_notBl (pe_call (ok_has_stroke T) hr (by rfl) T.g_has_stroke T.k_has_stroke T.b_has_stroke .nil passL (pa_cons (pv 0) (pa_cons (pv 1) (pa_cons (pv 3) pa_nil)))) pe_bl (nomark _))
      (pss_one (ps_ret pe_bl))
      pss_nil)
    (pss_cons (ps_set (i := 4) sc_stands.nd rfl (Or.inl rfl) (pe_cmpR op_ne (pe_op op_fdivW (pe_op op_mulW (pv 0) (pv 2)) (pv 1)) (pe_op op_fdivW (pe_op op_mulW (pv 0) (pe_op op_add (pv 2) pe_int)) (pv 1)) (nomark _)))
    (pss_cons (ps_set (i := 5) sc_stands.nd rfl (Or.inl rfl) (pe_call (ok_has_stroke T) hr (by rfl) T.g_has_stroke T.k_has_stroke T.b_has_stroke .nil passL (pa_cons (pv 0) (pa_cons (pv 1) (pa_cons (pv 2) pa_nil)))))
    (pss_one (ps_ret (pe_and (pe_callB call_isi (by rfl) T.m_isinstance (by decide +kernel) (pa_cons (pv 5) (pa_cons (pe_bltn (v := .ty "bool") (by rfl) T.m_bool (by decide +kernel) rfl) pa_nil))) (pe_one (pe_cmpR op_eq (pv 5) (pv 4) (nomark _))))))))))), ?_⟩
    repeat walk_at "rd"
    refine ⟨s, p, n, rfl, fun z => absurd hw z, fun _ => ⟨fun z => by omega, fun _ => ⟨bp, wider bn (by decide), ?_⟩⟩⟩
    generalize ((n + 1) * p - 1) / s = at' at bat k1 k2 ⊢
    repeat walk_at "rd"
    refine ⟨_, rfl, ?_⟩
    repeat walk_at "rd"
    refine rd_I (wide_mul bs bat (by decide) (by decide) (by decide)) ?_
    repeat walk_at "rd"
    refine rd_I (wide_div p0 bp (by decide) (by decide)) ?_
    rw [k1]
    repeat walk_at "rd"
    refine rd_splitN (fun c => absurd rfl c) fun _ => ?_
    repeat walk_at "rd"
    refine rd_I (wide_mul bs (one_more bat) (by decide) (by decide) (by decide)) ?_
    repeat walk_at "rd"
    refine rd_I (wide_div p0 bp (by decide) (by decide)) ?_
    rw [k2]
    repeat walk_at "rd"
    refine rd_splitN (fun c => absurd rfl c) fun _ => ?_
    repeat walk_at "rd"
    refine ⟨s, p, _, rfl, fun z => absurd hw z, fun _ => ⟨bp, wider bat (by decide), ?_⟩⟩
    rw [k1, k2, decide_eq_true (show n < n + 1 by omega)]
    repeat walk_at "rd"
    refine rd_splitN (fun c => absurd rfl c) fun _ => ?_
    repeat walk_at "rd"
    refine rd_I (wide_mul bs bn (by decide) (by decide) (by decide)) ?_
    repeat walk_at "rd"
    refine rd_I (wide_div p0 bp (by decide) (by decide)) ?_
    repeat walk_at "rd"
    refine rd_I (wide_mul bs (one_more bn) (by decide) (by decide) (by decide)) ?_
    repeat walk_at "rd"
    refine rd_I (wide_div p0 bp (by decide) (by decide)) ?_
    repeat walk_at "rd"
    refine ⟨s, p, n, rfl, fun z => absurd hw z, fun _ => ⟨bp, wider bn (by decide), ?_⟩⟩
    obtain ⟨o1, o2⟩ := one_on (a := n) (s := s) p0 (by omega) h2
    repeat walk_at "rd"
    have e : decide (s * n / p < s * (n + 1) / p) = !decide (V.int (s * n / p) = V.int (s * (n + 1) / p)) := by
      by_cases c : s * n / p = s * (n + 1) / p
      · rw [decide_eq_false (show ¬ s * n / p < s * (n + 1) / p by omega), decide_eq_true (congrArg V.int c)]
        rfl
      · rw [decide_eq_true (show s * n / p < s * (n + 1) / p by omega), decide_eq_false (fun z => c (V.int.inj z))]
        rfl
    rw [e, decide_eq_true rfl]
    exact q
/-! ### the law -/
def sp_law (K : PySem.W.Frag) : Sp := fun vs H Q _ => ∃ (a : Addr) (ns : List Int), vs = [.ref a] ∧ SqL K H a (ns.map V.int) ∧ ns.length ≤ 63 ∧ ∀ H', Q (.bl true) H'
theorem ok_law (T : Txt K mg) {fa : Addr} {fda : FuncData} (FL : Fun K "law" "law" s_law fa fda) : FnOk P w K mg base CX0 5 fa fda ["_law_script"] (sp_law K) := by
  refine FL.ok sc_law (fun vs H Q E h => ?_) (fun cdv A outer s H vs Q E hr h => ?_)
  · obtain ⟨a, ns, rfl, _⟩ := h
    rfl
  · obtain ⟨a, ns, rfl, hS, hlen, q⟩ := h
    refine ⟨_, (pss_cons (ps_set (i := 1) sc_law.nd rfl (Or.inl rfl) (pe_call (ok_places T) (hr.mono (by decide)) (by rfl) T.g_places T.k_places T.b_places .nil pass0 (pa_cons (pe_call (ok_cell_at T) (hr.mono (by decide)) (by rfl) T.g_cell_at T.k_cell_at T.b_cell_at .nil pass0 (pa_cons (pv 0) (pa_cons pe_int pa_nil))) pa_nil)))
    (pss_cons (ps_set (i := 2) sc_law.nd rfl (Or.inl rfl) (pe_op op_add pe_int (pe_op op_mod (pe_call (ok_cell_at T) (hr.mono (by decide)) (by rfl) T.g_cell_at T.k_cell_at T.b_cell_at .nil pass0 (pa_cons (pv 0) (pa_cons pe_int pa_nil))) (pv 1))))
    (pss_cons (ps_for PassesOwn.never rfl (pi_list (pe_slice sl_list (pv 0) (po_some pe_int) po_none)) (pg_name (i := 3) sc_law.nd rfl (Or.inl rfl))
      (pss_cons (ps_set (i := 4) sc_law.nd rfl (Or.inl rfl) (pe_op op_sub (pe_op op_mod (pe_op op_fdiv (pv 3) pe_int) (pe_op op_add (pe_op op_mul pe_int (pe_op op_pow pe_int pe_int)) pe_int)) (pe_op op_pow pe_int pe_int)))
      (pss_cons (ps_if (pt_cmpR op_eq (pe_op op_mod (pv 3) pe_int) pe_int (nomark _))
        (pss_one (ps_set (i := 4) sc_law.nd rfl (Or.inl rfl) (pe_op op_sub (pe_op op_mod (pe_op op_fdiv (pv 3) pe_int) pe_int) pe_int)))
        pss_nil)
      (pss_one (ps_if (pt_not (pt_val (pe_call (ok_stands T) hr (by rfl) T.g_stands T.k_stands T.b_stands .nil pass0 (pa_cons (pv 2) (pa_cons (pv 1) (pa_cons (pv 4) pa_nil))))))
        (pss_one (ps_ret pe_bl))
        pss_nil)))))
    (pss_cons (ps_set (i := 5) sc_law.nd rfl (Or.inl rfl) (pe_op op_sub (pe_op op_mod (pe_call (ok_cell_at T) (hr.mono (by decide)) (by rfl) T.g_cell_at T.k_cell_at T.b_cell_at .nil pass0 (pa_cons (pv 0) (pa_cons pe_int pa_nil))) pe_int) pe_int))
    (pss_cons (ps_set (i := 6) sc_law.nd rfl (Or.inl rfl) (pe_call (ok_error T) (hr.mono (by decide)) (by rfl) T.g_error T.k_error T.b_error .nil pass0 (pa_cons pe_int (pa_cons (pv 1) (pa_cons (pv 5) pa_nil)))))
    (pss_cons (ps_if (PW.pt (pw_or (pt_not (pt_val (pe_callB call_isH (by rfl) T.m_isinstance (by decide +kernel) (pa_cons (pv 6) (pa_cons (pe_glob (v := .ref T.c_NoStroke) (by rfl) T.gc_NoStroke rfl) pa_nil))))) (pw_or1 (pt_not (pt_val (pe_callB call_isH (by rfl) T.m_isinstance (by decide +kernel) (pa_cons (pv 6) (pa_cons (pe_bltn (v := .ty "ValueError") (by rfl) T.m_ValueError (by decide +kernel) rfl) pa_nil))))))))
      (pss_one (ps_ret pe_bl))
      pss_nil)
    (pss_cons (ps_if (PW.pt (pw_or (pt_val (pe_callB call_isHT (by rfl) T.m_isinstance (by decide +kernel) (pa_cons (pv 6) (pa_cons (pe_tup (pa_cons (pe_glob (v := .ref T.c_NoRow) (by rfl) T.gc_NoRow rfl) (pa_cons (pe_glob (v := .ref T.c_NoWheel) (by rfl) T.gc_NoWheel rfl) (pa_cons (pe_glob (v := .ref T.c_Uneven) (by rfl) T.gc_Uneven rfl) pa_nil)))) pa_nil)))) (pw_or1 (pt_cmpR op_notBl (pe_call (ok_has_stroke T) (hr.mono (by decide)) (by rfl) T.g_has_stroke T.k_has_stroke T.b_has_stroke .nil passL (pa_cons pe_int (pa_cons (pv 1) (pa_cons (pv 5) pa_nil)))) pe_bl (nomark _)))))
      (pss_one (ps_ret pe_bl))
      pss_nil)
    (pss_cons (ps_set (i := 7) sc_law.nd rfl (Or.inl rfl) (pe_call (ok_no_wheel T) (hr.mono (by decide)) (by rfl) T.g_no_wheel T.k_no_wheel T.b_no_wheel .nil pass0 (pa_cons (pe_call (ok_cell_at T) (hr.mono (by decide)) (by rfl) T.g_cell_at T.k_cell_at T.b_cell_at .nil pass0 (pa_cons (pv 0) (pa_cons pe_int pa_nil))) (pa_cons (pv 1) pa_nil))))
    (pss_cons (ps_if (pt_not (pt_val (pe_call (ok_no_wheel_told T) (hr.mono (by decide)) (by rfl) T.g_no_wheel_told T.k_no_wheel_told T.b_no_wheel_told .nil pass0 (pa_cons (pe_call (ok_error T) (hr.mono (by decide)) (by rfl) T.g_error T.k_error T.b_error .nil pass0 (pa_cons (pe_ix ix_tup (pv 7) pe_int (fun _ _ => rfl)) (pa_cons (pe_ix ix_tup (pv 7) pe_int (fun _ _ => rfl)) (pa_cons (pv 5) pa_nil)))) pa_nil))))
      (pss_one (ps_ret pe_bl))
      pss_nil)
    (pss_one (ps_ret (pe_call (ok_no_wheel_told T) (hr.mono (by decide)) (by rfl) T.g_no_wheel_told T.k_no_wheel_told T.b_no_wheel_told .nil pass0 (pa_cons (pe_call (ok_error_asked T) hr (by rfl) T.g_error_asked T.k_error_asked T.b_error_asked .nil pass0 (pa_cons (pe_ix ix_tup (pv 7) pe_int (fun _ _ => rfl)) (pa_cons (pe_ix ix_tup (pv 7) pe_int (fun _ _ => rfl)) (pa_cons (pv 5) pa_nil)))) pa_nil))))))))))))), ?_⟩
    have e60 : (10 : Int) ^ Int.toNat 60 = 10 ^ 60 := rfl
    repeat walk_at "rd"
    refine ⟨a, ns, 0, rfl, hS, ?_⟩
    repeat walk_at "rd"
    refine ⟨_, rfl, ?_⟩
    have hp := placesOf_in (cell ns 0)
    generalize placesOf (cell ns 0) = p at hp
    repeat walk_at "rd"
    refine ⟨a, ns, 1, rfl, hS, ?_⟩
    repeat walk_at "rd"
    have hs0 := Int.emod_nonneg (cell ns 1) (show p ≠ 0 by omega)
    have hs1 := Int.emod_lt_of_pos (cell ns 1) (show 0 < p by omega)
    have hs : 1 ≤ 1 + cell ns 1 % p ∧ 1 + cell ns 1 % p ≤ p := by omega
    generalize 1 + cell ns 1 % p = s at hs ⊢
    have bp : p.natAbs < 2 ^ 210 := big (by omega)
    refine rd_slL hS fun c nc => ?_
    have s0 : Same H (upd H c (.lst (cutV (ns.map V.int) (some 2) none))) := same_new nc
    refine ⟨c, rfl, ⟨_, SqL.of upd_same⟩, for_list (xs := cutV (ns.map V.int) (some 2) none) (fun i σ H' => (∃ x4 x5, σ = [some (.ref a), some (.int p), some (.int s), x4, x5, none, none, none]) ∧ Same (upd H c (.lst (cutV (ns.map V.int) (some 2) none))) H')
      ⟨⟨_, _, rfl⟩, Same.refl _⟩ (fun i σ H' _ h' => SqL.of (h'.2 _ _ upd_same)) ?_ ?_⟩
    · rintro i y σ H' hi ⟨⟨x4, x5, rfl⟩, sm⟩
      obtain ⟨z, rfl⟩ : ∃ z, y = V.int z := cut_int hi
      repeat walk_at "rd"
      refine rd_split (fun c1 => ?_) fun c1 => ?_
      · repeat walk_at "rd"
        refine ⟨s, p, _, rfl, hs.1, hs.2, hp.2, ?_, ?_⟩
        · omega
        repeat walk_at "rd"
        exact ⟨⟨_, _, rfl⟩, sm⟩
      · repeat walk_at "rd"
        refine ⟨s, p, _, rfl, hs.1, hs.2, hp.2, ?_, ?_⟩
        · rw [e60]
          omega
        repeat walk_at "rd"
        exact ⟨⟨_, _, rfl⟩, sm⟩
    · rintro σ H' ⟨⟨x4, x5, rfl⟩, sm⟩
      have hS' : SqL K H' a (ns.map V.int) := sm.seq (s0.seq hS)
      have w0 : Wheel 0 p := ⟨by omega, by omega, by omega⟩
      repeat walk_at "rd"
      refine ⟨a, ns, 3, rfl, hS', ?_⟩
      repeat walk_at "rd"
      have bl : (cell ns 3 % 1000 - 500).natAbs < 2 ^ 210 := big (by omega)
      generalize cell ns 3 % 1000 - 500 = last at bl ⊢
      refine ⟨0, p, last, _, rfl, .inr ⟨rfl, w0, rfl⟩, fun x H2 sm2 st => ?_⟩
      have hS2 : SqL K H2 a (ns.map V.int) := sm2.seq hS'
      repeat walk_at "rd"
      refine rd_isH st T.h_NoStroke (.own _) T.kit_NoStroke_NoStroke ?_
      repeat walk_at "rd"
      refine rd_isH st T.h_NoStroke (.ty _) T.ve_NoStroke ?_
      repeat walk_at "rd"
      refine ⟨by show 3 ≤ sizeLine; decide, fun t nt => ?_⟩
      repeat walk_at "rd"
      refine rd_isHT (st.to nt) T.h_NoStroke upd_same (.cons (.own _) (.cons (.own _) (.cons (.own _) .nil))) (kitAny_cons T.kit_NoStroke_NoRow (fun _ => kitAny_cons T.kit_NoStroke_NoWheel (fun _ => kitAny_cons T.kit_NoStroke_Uneven (fun _ => kitAny_nil) (fun z => nomatch z)) (fun z => nomatch z)) (fun z => nomatch z)) ?_
      have hS3 := (same_new (o := .tup [.ref T.c_NoRow, .ref T.c_NoWheel, .ref T.c_Uneven]) nt).seq hS2
      repeat walk_at "rd"
      refine ⟨0, p, last, rfl, fun z => absurd w0 z, fun _ => ⟨bp, wider bl (by decide), ?_⟩⟩
      rw [Int.zero_mul, Int.zero_mul]
      repeat walk_at "rd"
      refine rd_splitN (fun c => absurd ?_ c) fun _ => ?_
      · exact decide_eq_false (by omega)
      repeat walk_at "rd"
      refine ⟨a, ns, 2, rfl, hS3, ?_⟩
      repeat walk_at "rd"
      refine ⟨_, p, rfl, hp.1, hp.2, fun t2 s' p' H4 sm4 nt4 et hb bp' => ?_⟩
      repeat walk_at "rd"
      refine rd_ixT (SqT.of et) (atI_nat (j := 0) rfl) ?_
      repeat walk_at "rd"
      refine rd_ixT (SqT.of et) (atI_nat (j := 1) rfl) ?_
      repeat walk_at "rd"
      refine ⟨_, _, _, _, rfl, .inl ⟨rfl, hb⟩, fun y H5 sm5 st5 => ?_⟩
      repeat walk_at "rd"
      refine ⟨y, rfl, st5, fun H6 sm6 => ?_⟩
      have et6 := sm6 _ _ (sm5 _ _ et)
      repeat walk_at "rd"
      refine rd_ixT (SqT.of et6) (atI_nat (j := 0) rfl) ?_
      repeat walk_at "rd"
      refine rd_ixT (SqT.of et6) (atI_nat (j := 1) rfl) ?_
      repeat walk_at "rd"
      refine ⟨_, _, _, rfl, hb, fun y7 H7 sm7 st7 => ?_⟩
      repeat walk_at "rd"
      exact ⟨y7, rfl, st7, fun H8 _ => q H8⟩
end
/-! ### what the top has written -/
theorem all_mk {l : PySem.W.OpenLaw} {w : World} {K : PySem.W.Frag} {h : Heap} {mg : Str → Option Value} {fa : Addr} (X : K.In h) (G : h.Ns mainGlobals mg) (hfa : mg "law" = some (.ref fa))
    {f1 : Addr} {od1 an1 : Option Addr} {sl1 : Array (Option Value)} {oc1 kV1 dc1 pm1 cd1 ct1 : Value}
    {f2 : Addr} {od2 an2 : Option Addr} {sl2 : Array (Option Value)} {oc2 kV2 dc2 pm2 cd2 ct2 : Value}
    {f3 : Addr} {od3 an3 : Option Addr} {sl3 : Array (Option Value)} {oc3 kV3 dc3 pm3 cd3 ct3 : Value}
    {f4 : Addr} {od4 an4 : Option Addr} {sl4 : Array (Option Value)} {oc4 kV4 dc4 pm4 cd4 ct4 : Value}
    {f5 : Addr} {od5 an5 : Option Addr} {sl5 : Array (Option Value)} {oc5 kV5 dc5 pm5 cd5 ct5 : Value}
    {f6 : Addr} {od6 an6 : Option Addr} {sl6 : Array (Option Value)} {oc6 kV6 dc6 pm6 cd6 ct6 : Value}
    {f7 : Addr} {od7 an7 : Option Addr} {sl7 : Array (Option Value)} {oc7 kV7 dc7 pm7 cd7 ct7 : Value}
    {f8 : Addr} {od8 an8 : Option Addr} {sl8 : Array (Option Value)} {oc8 kV8 dc8 pm8 cd8 ct8 : Value}
    {f9 : Addr} {od9 an9 : Option Addr} {sl9 : Array (Option Value)} {oc9 kV9 dc9 pm9 cd9 ct9 : Value}
    {f10 : Addr} {od10 an10 : Option Addr} {sl10 : Array (Option Value)} {oc10 kV10 dc10 pm10 cd10 ct10 : Value}
    {f11 : Addr} {od11 an11 : Option Addr} {sl11 : Array (Option Value)} {oc11 kV11 dc11 pm11 cd11 ct11 : Value}
    {f12 : Addr} {od12 an12 : Option Addr} {sl12 : Array (Option Value)} {oc12 kV12 dc12 pm12 cd12 ct12 : Value}
    {f13 : Addr} {od13 an13 : Option Addr} {sl13 : Array (Option Value)} {oc13 kV13 dc13 pm13 cd13 ct13 : Value}
    {C_BeatError : Addr}
    {C_NoWheel : Addr}
    {C_NoStroke : Addr}
    {C_NoRow : Addr}
    {C_Uneven : Addr}
    (a1 : PySem.W.nsIn K mainGlobals "look_at_wheel" = some (some (.ref f1)))
    (l1 : K.lookup f1 = some ⟨oc1, od1, .func (PySem.W.fnOf "look_at_wheel" "look_at_wheel" (defArgs s_look_at_wheel) (defBody s_look_at_wheel) (defScope s_look_at_wheel) .none kV1 dc1 pm1 an1 cd1 ct1), sl1⟩)
    (c1 : PySem.W.codeIn K cd1 "look_at_wheel" = true)
    (k1 : PySem.W.keepIn K (.ref f1) = true)
    (a2 : PySem.W.nsIn K mainGlobals "ahead" = some (some (.ref f2)))
    (l2 : K.lookup f2 = some ⟨oc2, od2, .func (PySem.W.fnOf "ahead" "ahead" (defArgs s_ahead) (defBody s_ahead) (defScope s_ahead) .none kV2 dc2 pm2 an2 cd2 ct2), sl2⟩)
    (c2 : PySem.W.codeIn K cd2 "ahead" = true)
    (k2 : PySem.W.keepIn K (.ref f2) = true)
    (a3 : PySem.W.nsIn K mainGlobals "has_stroke" = some (some (.ref f3)))
    (l3 : K.lookup f3 = some ⟨oc3, od3, .func (PySem.W.fnOf "has_stroke" "has_stroke" (defArgs s_has_stroke) (defBody s_has_stroke) (defScope s_has_stroke) .none kV3 dc3 pm3 an3 cd3 ct3), sl3⟩)
    (c3 : PySem.W.codeIn K cd3 "has_stroke" = true)
    (k3 : PySem.W.keepIn K (.ref f3) = true)
    (a4 : PySem.W.nsIn K mainGlobals "place_of" = some (some (.ref f4)))
    (l4 : K.lookup f4 = some ⟨oc4, od4, .func (PySem.W.fnOf "place_of" "place_of" (defArgs s_place_of) (defBody s_place_of) (defScope s_place_of) .none kV4 dc4 pm4 an4 cd4 ct4), sl4⟩)
    (c4 : PySem.W.codeIn K cd4 "place_of" = true)
    (k4 : PySem.W.keepIn K (.ref f4) = true)
    (a5 : PySem.W.nsIn K mainGlobals "_law_cell_at" = some (some (.ref f5)))
    (l5 : K.lookup f5 = some ⟨oc5, od5, .func (PySem.W.fnOf "_law_cell_at" "_law_cell_at" (defArgs s_cell_at) (defBody s_cell_at) (defScope s_cell_at) .none kV5 dc5 pm5 an5 cd5 ct5), sl5⟩)
    (c5 : PySem.W.codeIn K cd5 "_law_cell_at" = true)
    (k5 : PySem.W.keepIn K (.ref f5) = true)
    (a6 : PySem.W.nsIn K mainGlobals "_law_whole" = some (some (.ref f6)))
    (l6 : K.lookup f6 = some ⟨oc6, od6, .func (PySem.W.fnOf "_law_whole" "_law_whole" (defArgs s_whole) (defBody s_whole) (defScope s_whole) .none kV6 dc6 pm6 an6 cd6 ct6), sl6⟩)
    (c6 : PySem.W.codeIn K cd6 "_law_whole" = true)
    (k6 : PySem.W.keepIn K (.ref f6) = true)
    (a7 : PySem.W.nsIn K mainGlobals "_law_places" = some (some (.ref f7)))
    (l7 : K.lookup f7 = some ⟨oc7, od7, .func (PySem.W.fnOf "_law_places" "_law_places" (defArgs s_places) (defBody s_places) (defScope s_places) .none kV7 dc7 pm7 an7 cd7 ct7), sl7⟩)
    (c7 : PySem.W.codeIn K cd7 "_law_places" = true)
    (k7 : PySem.W.keepIn K (.ref f7) = true)
    (a8 : PySem.W.nsIn K mainGlobals "_law_no_wheel" = some (some (.ref f8)))
    (l8 : K.lookup f8 = some ⟨oc8, od8, .func (PySem.W.fnOf "_law_no_wheel" "_law_no_wheel" (defArgs s_no_wheel) (defBody s_no_wheel) (defScope s_no_wheel) .none kV8 dc8 pm8 an8 cd8 ct8), sl8⟩)
    (c8 : PySem.W.codeIn K cd8 "_law_no_wheel" = true)
    (k8 : PySem.W.keepIn K (.ref f8) = true)
    (a9 : PySem.W.nsIn K mainGlobals "_law_error" = some (some (.ref f9)))
    (l9 : K.lookup f9 = some ⟨oc9, od9, .func (PySem.W.fnOf "_law_error" "_law_error" (defArgs s_error) (defBody s_error) (defScope s_error) .none kV9 dc9 pm9 an9 cd9 ct9), sl9⟩)
    (c9 : PySem.W.codeIn K cd9 "_law_error" = true)
    (k9 : PySem.W.keepIn K (.ref f9) = true)
    (a10 : PySem.W.nsIn K mainGlobals "_law_error_asked" = some (some (.ref f10)))
    (l10 : K.lookup f10 = some ⟨oc10, od10, .func (PySem.W.fnOf "_law_error_asked" "_law_error_asked" (defArgs s_error_asked) (defBody s_error_asked) (defScope s_error_asked) .none kV10 dc10 pm10 an10 cd10 ct10), sl10⟩)
    (c10 : PySem.W.codeIn K cd10 "_law_error_asked" = true)
    (k10 : PySem.W.keepIn K (.ref f10) = true)
    (a11 : PySem.W.nsIn K mainGlobals "_law_no_wheel_told" = some (some (.ref f11)))
    (l11 : K.lookup f11 = some ⟨oc11, od11, .func (PySem.W.fnOf "_law_no_wheel_told" "_law_no_wheel_told" (defArgs s_no_wheel_told) (defBody s_no_wheel_told) (defScope s_no_wheel_told) .none kV11 dc11 pm11 an11 cd11 ct11), sl11⟩)
    (c11 : PySem.W.codeIn K cd11 "_law_no_wheel_told" = true)
    (k11 : PySem.W.keepIn K (.ref f11) = true)
    (a12 : PySem.W.nsIn K mainGlobals "_law_stands" = some (some (.ref f12)))
    (l12 : K.lookup f12 = some ⟨oc12, od12, .func (PySem.W.fnOf "_law_stands" "_law_stands" (defArgs s_stands) (defBody s_stands) (defScope s_stands) .none kV12 dc12 pm12 an12 cd12 ct12), sl12⟩)
    (c12 : PySem.W.codeIn K cd12 "_law_stands" = true)
    (k12 : PySem.W.keepIn K (.ref f12) = true)
    (a13 : PySem.W.nsIn K mainGlobals "law" = some (some (.ref f13)))
    (l13 : K.lookup f13 = some ⟨oc13, od13, .func (PySem.W.fnOf "law" "law" (defArgs s_law) (defBody s_law) (defScope s_law) .none kV13 dc13 pm13 an13 cd13 ct13), sl13⟩)
    (c13 : PySem.W.codeIn K cd13 "law" = true)
    (k13 : PySem.W.keepIn K (.ref f13) = true)
    (z_len : PySem.W.nsIn K mainGlobals "len" = some none)
    (z_isinstance : PySem.W.nsIn K mainGlobals "isinstance" = some none)
    (z_bool : PySem.W.nsIn K mainGlobals "bool" = some none)
    (z_int : PySem.W.nsIn K mainGlobals "int" = some none)
    (z_ValueError : PySem.W.nsIn K mainGlobals "ValueError" = some none)
    (aC_BeatError : PySem.W.nsIn K mainGlobals "BeatError" = some (some (.ref C_BeatError)))
    (iC_BeatError : PySem.W.isClsIn K C_BeatError = true)
    (tC_BeatError : PySem.W.typeIn K (.ref C_BeatError) = some (.type "type"))
    (bC_BeatError : PySem.W.subIn K (.ref C_BeatError) (.type "BaseException") = some true)
    (aC_NoWheel : PySem.W.nsIn K mainGlobals "NoWheel" = some (some (.ref C_NoWheel)))
    (iC_NoWheel : PySem.W.isClsIn K C_NoWheel = true)
    (tC_NoWheel : PySem.W.typeIn K (.ref C_NoWheel) = some (.type "type"))
    (bC_NoWheel : PySem.W.subIn K (.ref C_NoWheel) (.type "BaseException") = some true)
    (aC_NoStroke : PySem.W.nsIn K mainGlobals "NoStroke" = some (some (.ref C_NoStroke)))
    (iC_NoStroke : PySem.W.isClsIn K C_NoStroke = true)
    (tC_NoStroke : PySem.W.typeIn K (.ref C_NoStroke) = some (.type "type"))
    (bC_NoStroke : PySem.W.subIn K (.ref C_NoStroke) (.type "BaseException") = some true)
    (aC_NoRow : PySem.W.nsIn K mainGlobals "NoRow" = some (some (.ref C_NoRow)))
    (iC_NoRow : PySem.W.isClsIn K C_NoRow = true)
    (tC_NoRow : PySem.W.typeIn K (.ref C_NoRow) = some (.type "type"))
    (bC_NoRow : PySem.W.subIn K (.ref C_NoRow) (.type "BaseException") = some true)
    (aC_Uneven : PySem.W.nsIn K mainGlobals "Uneven" = some (some (.ref C_Uneven)))
    (iC_Uneven : PySem.W.isClsIn K C_Uneven = true)
    (tC_Uneven : PySem.W.typeIn K (.ref C_Uneven) = some (.type "type"))
    (bC_Uneven : PySem.W.subIn K (.ref C_Uneven) (.type "BaseException") = some true)
    (x_NoWheel : PySem.W.excIn K C_NoWheel [.type "ValueError", .type "Exception", .type "BaseException", .type "object"] "ValueError.__new__" = true)
    (kc_NoWheel : PySem.W.keepIn K (.ref C_NoWheel) = true)
    (sub_NoWheel : PySem.W.subIn K (.ref C_NoWheel) (.type "BaseException") = some true)
    (ty_NoWheel : PySem.W.typeIn K (.ref C_NoWheel) = some (.type "type"))
    (x_NoStroke : PySem.W.excIn K C_NoStroke [.type "ValueError", .type "Exception", .type "BaseException", .type "object"] "ValueError.__new__" = true)
    (kc_NoStroke : PySem.W.keepIn K (.ref C_NoStroke) = true)
    (sub_NoStroke : PySem.W.subIn K (.ref C_NoStroke) (.type "BaseException") = some true)
    (ty_NoStroke : PySem.W.typeIn K (.ref C_NoStroke) = some (.type "type"))
    (hn0 : PySem.W.specialIn K (.builtin "object.__class__") "__get__" = some (some (.builtin "getset_descriptor.__get__")))
    (ht0 : PySem.W.takesIn K (.builtin "object.__class__") = some true)
    (hc_NoWheel : PySem.W.isClsIn K C_NoWheel = true)
    (hg_NoWheel : PySem.W.findIn K (.ref C_NoWheel) "__getattribute__" = some (some (.builtin "BaseException.__getattribute__")))
    (hk_NoWheel : PySem.W.findIn K (.ref C_NoWheel) "__getattr__" = some none)
    (hs_NoWheel : PySem.W.subIn K (.ref C_NoWheel) (.type "BaseException") = some true)
    (ha_NoWheel : PySem.W.findIn K (.ref C_NoWheel) "__class__" = some (some (.builtin "object.__class__")))
    (hm_NoWheel : PySem.W.mroIn K C_NoWheel (.type "object") = some true)
    (hd_NoWheel : PySem.W.hasDictIn K C_NoWheel = true)
    (sVE_NoWheel : PySem.W.subIn K (.ref C_NoWheel) (.type "ValueError") = some true)
    (s_NoWheel_BeatError : PySem.W.subIn K (.ref C_NoWheel) (.ref C_BeatError) = some true)
    (n_NoWheel_BeatError : (C_NoWheel == C_BeatError) = false)
    (s_NoWheel_NoStroke : PySem.W.subIn K (.ref C_NoWheel) (.ref C_NoStroke) = some false)
    (n_NoWheel_NoStroke : (C_NoWheel == C_NoStroke) = false)
    (s_NoWheel_NoRow : PySem.W.subIn K (.ref C_NoWheel) (.ref C_NoRow) = some false)
    (n_NoWheel_NoRow : (C_NoWheel == C_NoRow) = false)
    (s_NoWheel_Uneven : PySem.W.subIn K (.ref C_NoWheel) (.ref C_Uneven) = some false)
    (n_NoWheel_Uneven : (C_NoWheel == C_Uneven) = false)
    (hc_NoStroke : PySem.W.isClsIn K C_NoStroke = true)
    (hg_NoStroke : PySem.W.findIn K (.ref C_NoStroke) "__getattribute__" = some (some (.builtin "BaseException.__getattribute__")))
    (hk_NoStroke : PySem.W.findIn K (.ref C_NoStroke) "__getattr__" = some none)
    (hs_NoStroke : PySem.W.subIn K (.ref C_NoStroke) (.type "BaseException") = some true)
    (ha_NoStroke : PySem.W.findIn K (.ref C_NoStroke) "__class__" = some (some (.builtin "object.__class__")))
    (hm_NoStroke : PySem.W.mroIn K C_NoStroke (.type "object") = some true)
    (hd_NoStroke : PySem.W.hasDictIn K C_NoStroke = true)
    (sVE_NoStroke : PySem.W.subIn K (.ref C_NoStroke) (.type "ValueError") = some true)
    (s_NoStroke_BeatError : PySem.W.subIn K (.ref C_NoStroke) (.ref C_BeatError) = some true)
    (n_NoStroke_BeatError : (C_NoStroke == C_BeatError) = false)
    (s_NoStroke_NoWheel : PySem.W.subIn K (.ref C_NoStroke) (.ref C_NoWheel) = some false)
    (n_NoStroke_NoWheel : (C_NoStroke == C_NoWheel) = false)
    (s_NoStroke_NoRow : PySem.W.subIn K (.ref C_NoStroke) (.ref C_NoRow) = some false)
    (n_NoStroke_NoRow : (C_NoStroke == C_NoRow) = false)
    (s_NoStroke_Uneven : PySem.W.subIn K (.ref C_NoStroke) (.ref C_Uneven) = some false)
    (n_NoStroke_Uneven : (C_NoStroke == C_Uneven) = false)
    : ∃ fd : FuncData, (∀ (s : Shared) (v : Value), BindsTo s fd ⟨[v], []⟩ [("_law_script", v)]) ∧ ∀ base : Heap, K.In base → base.Ns mainGlobals mg → FnOk l.prog w K mg base CX0 5 fa fd ["_law_script"] (sp_law K) := by
  have e := hfa.symm.trans (PySem.W.mg_of X G a13)
  cases e
  have F1 := fun_mk (st := s_look_at_wheel) l1 c1 k1
  have F2 := fun_mk (st := s_ahead) l2 c2 k2
  have F3 := fun_mk (st := s_has_stroke) l3 c3 k3
  have F4 := fun_mk (st := s_place_of) l4 c4 k4
  have F5 := fun_mk (st := s_cell_at) l5 c5 k5
  have F6 := fun_mk (st := s_whole) l6 c6 k6
  have F7 := fun_mk (st := s_places) l7 c7 k7
  have F8 := fun_mk (st := s_no_wheel) l8 c8 k8
  have F9 := fun_mk (st := s_error) l9 c9 k9
  have F10 := fun_mk (st := s_error_asked) l10 c10 k10
  have F11 := fun_mk (st := s_no_wheel_told) l11 c11 k11
  have F12 := fun_mk (st := s_stands) l12 c12 k12
  have F13 := fun_mk (st := s_law) l13 c13 k13
  have T : Txt K mg := {
    f_look_at_wheel := f1, fd_look_at_wheel := _, F_look_at_wheel := F1, k_look_at_wheel := k1, g_look_at_wheel := PySem.W.mg_of X G a1, b_look_at_wheel := F1.binds (ps := ["strokes", "places"]) (fun _ _ _ _ _ _ us hl => match us, hl with | [_, _], _ => rfl),
    f_ahead := f2, fd_ahead := _, F_ahead := F2, k_ahead := k2, g_ahead := PySem.W.mg_of X G a2, b_ahead := F2.binds (ps := ["strokes", "places", "at"]) (fun _ _ _ _ _ _ us hl => match us, hl with | [_, _, _], _ => rfl),
    f_has_stroke := f3, fd_has_stroke := _, F_has_stroke := F3, k_has_stroke := k3, g_has_stroke := PySem.W.mg_of X G a3, b_has_stroke := F3.binds (ps := ["strokes", "places", "at"]) (fun _ _ _ _ _ _ us hl => match us, hl with | [_, _, _], _ => rfl),
    f_place_of := f4, fd_place_of := _, F_place_of := F4, k_place_of := k4, g_place_of := PySem.W.mg_of X G a4, b_place_of := F4.binds (ps := ["strokes", "places", "number"]) (fun _ _ _ _ _ _ us hl => match us, hl with | [_, _, _], _ => rfl),
    f_cell_at := f5, fd_cell_at := _, F_cell_at := F5, k_cell_at := k5, g_cell_at := PySem.W.mg_of X G a5, b_cell_at := F5.binds (ps := ["_law_script", "_law_k"]) (fun _ _ _ _ _ _ us hl => match us, hl with | [_, _], _ => rfl),
    f_whole := f6, fd_whole := _, F_whole := F6, k_whole := k6, g_whole := PySem.W.mg_of X G a6, b_whole := F6.binds (ps := ["_law_found"]) (fun _ _ _ _ _ _ us hl => match us, hl with | [_], _ => rfl),
    f_places := f7, fd_places := _, F_places := F7, k_places := k7, g_places := PySem.W.mg_of X G a7, b_places := F7.binds (ps := ["_law_cell"]) (fun _ _ _ _ _ _ us hl => match us, hl with | [_], _ => rfl),
    f_no_wheel := f8, fd_no_wheel := _, F_no_wheel := F8, k_no_wheel := k8, g_no_wheel := PySem.W.mg_of X G a8, b_no_wheel := F8.binds (ps := ["_law_cell", "_law_places_here"]) (fun _ _ _ _ _ _ us hl => match us, hl with | [_, _], _ => rfl),
    f_error := f9, fd_error := _, F_error := F9, k_error := k9, g_error := PySem.W.mg_of X G a9, b_error := F9.binds (ps := ["_law_strokes", "_law_places_here", "_law_number"]) (fun _ _ _ _ _ _ us hl => match us, hl with | [_, _, _], _ => rfl),
    f_error_asked := f10, fd_error_asked := _, F_error_asked := F10, k_error_asked := k10, g_error_asked := PySem.W.mg_of X G a10, b_error_asked := F10.binds (ps := ["_law_strokes", "_law_places_here", "_law_at"]) (fun _ _ _ _ _ _ us hl => match us, hl with | [_, _, _], _ => rfl),
    f_no_wheel_told := f11, fd_no_wheel_told := _, F_no_wheel_told := F11, k_no_wheel_told := k11, g_no_wheel_told := PySem.W.mg_of X G a11, b_no_wheel_told := F11.binds (ps := ["_law_error_here"]) (fun _ _ _ _ _ _ us hl => match us, hl with | [_], _ => rfl),
    f_stands := f12, fd_stands := _, F_stands := F12, k_stands := k12, g_stands := PySem.W.mg_of X G a12, b_stands := F12.binds (ps := ["_law_strokes", "_law_places_here", "_law_number"]) (fun _ _ _ _ _ _ us hl => match us, hl with | [_, _, _], _ => rfl),
    m_len := PySem.W.mg_none_of X G z_len,
    m_isinstance := PySem.W.mg_none_of X G z_isinstance,
    m_bool := PySem.W.mg_none_of X G z_bool,
    m_int := PySem.W.mg_none_of X G z_int,
    m_ValueError := PySem.W.mg_none_of X G z_ValueError,
    c_BeatError := C_BeatError, gc_BeatError := PySem.W.mg_of X G aC_BeatError,
    c_NoWheel := C_NoWheel, gc_NoWheel := PySem.W.mg_of X G aC_NoWheel,
    c_NoStroke := C_NoStroke, gc_NoStroke := PySem.W.mg_of X G aC_NoStroke,
    c_NoRow := C_NoRow, gc_NoRow := PySem.W.mg_of X G aC_NoRow,
    c_Uneven := C_Uneven, gc_Uneven := PySem.W.mg_of X G aC_Uneven,
    x_NoWheel := x_NoWheel, kc_NoWheel := kc_NoWheel, sub_NoWheel := sub_NoWheel, ty_NoWheel := ty_NoWheel,
    x_NoStroke := x_NoStroke, kc_NoStroke := kc_NoStroke, sub_NoStroke := sub_NoStroke, ty_NoStroke := ty_NoStroke,
    h_NoWheel := ⟨⟨hg_NoWheel, hk_NoWheel, hs_NoWheel, hd_NoWheel, ha_NoWheel, hn0, ht0, hm_NoWheel⟩, hc_NoWheel⟩,
    ve_NoWheel := kit_VE sVE_NoWheel,
    kit_NoWheel_BeatError := kit_other iC_BeatError tC_BeatError s_NoWheel_BeatError n_NoWheel_BeatError,
    exm_NoWheel := exm_other bC_BeatError iC_BeatError tC_BeatError s_NoWheel_BeatError,
    kit_NoWheel_NoWheel := kit_self,
    kit_NoWheel_NoStroke := kit_other iC_NoStroke tC_NoStroke s_NoWheel_NoStroke n_NoWheel_NoStroke,
    kit_NoWheel_NoRow := kit_other iC_NoRow tC_NoRow s_NoWheel_NoRow n_NoWheel_NoRow,
    kit_NoWheel_Uneven := kit_other iC_Uneven tC_Uneven s_NoWheel_Uneven n_NoWheel_Uneven,
    h_NoStroke := ⟨⟨hg_NoStroke, hk_NoStroke, hs_NoStroke, hd_NoStroke, ha_NoStroke, hn0, ht0, hm_NoStroke⟩, hc_NoStroke⟩,
    ve_NoStroke := kit_VE sVE_NoStroke,
    kit_NoStroke_BeatError := kit_other iC_BeatError tC_BeatError s_NoStroke_BeatError n_NoStroke_BeatError,
    exm_NoStroke := exm_other bC_BeatError iC_BeatError tC_BeatError s_NoStroke_BeatError,
    kit_NoStroke_NoWheel := kit_other iC_NoWheel tC_NoWheel s_NoStroke_NoWheel n_NoStroke_NoWheel,
    kit_NoStroke_NoStroke := kit_self,
    kit_NoStroke_NoRow := kit_other iC_NoRow tC_NoRow s_NoStroke_NoRow n_NoStroke_NoRow,
    kit_NoStroke_Uneven := kit_other iC_Uneven tC_Uneven s_NoStroke_Uneven n_NoStroke_Uneven }
  have FT : Fun K "law" "law" s_law fa (PySem.W.fnOf "law" "law" (defArgs s_law) (defBody s_law) (defScope s_law) .none kV13 dc13 pm13 an13 cd13 ct13) := F13
  refine ⟨_, fun s v => ?_, fun base _ _ => ok_law T FT⟩
  exact .of_eq rfl
end Eb
open PySem PySem.W PyProof.Rows
set_option maxHeartbeats 0 in
theorem PySem.Challenge.cw_evenbeat_k02_stroke_numbers_holds : PySem.Challenge.rw_evenbeat_k02_stroke_numbers.Holds := by
  w_on; o_law; k_head; (case hw => w_witness2)
  k_fill
  refine L2.walk_of (l := PySem.Challenge.rw_evenbeat_k02_stroke_numbers) (n := 63) (k := 5) (x := "_law_script") (CX := fun _ => L2.CX0) (sp := fun w => Eb.sp_law _) rfl (by decide) rfl ⟨rfl, by decide, by decide⟩ (fun w h Y => PySem.W.kIn_of Y) ?F (fun _ _ a ns hl _ hS => ⟨a, ns, rfl, hS, hl, fun _ => rfl⟩) (fun _ _ _ _ _ h => h)
  case F =>
    intro w mg fa h KX G hmg
    refine' Eb.all_mk KX G hmg ?a1 ?l1 ?c1 ?k1 ?a2 ?l2 ?c2 ?k2 ?a3 ?l3 ?c3 ?k3 ?a4 ?l4 ?c4 ?k4 ?a5 ?l5 ?c5 ?k5 ?a6 ?l6 ?c6 ?k6 ?a7 ?l7 ?c7 ?k7 ?a8 ?l8 ?c8 ?k8 ?a9 ?l9 ?c9 ?k9 ?a10 ?l10 ?c10 ?k10 ?a11 ?l11 ?c11 ?k11 ?a12 ?l12 ?c12 ?k12 ?a13 ?l13 ?c13 ?k13 ?z_len ?z_isinstance ?z_bool ?z_int ?z_ValueError ?aC_BeatError ?iC_BeatError ?tC_BeatError ?bC_BeatError ?aC_NoWheel ?iC_NoWheel ?tC_NoWheel ?bC_NoWheel ?aC_NoStroke ?iC_NoStroke ?tC_NoStroke ?bC_NoStroke ?aC_NoRow ?iC_NoRow ?tC_NoRow ?bC_NoRow ?aC_Uneven ?iC_Uneven ?tC_Uneven ?bC_Uneven ?x_NoWheel ?kc_NoWheel ?sub_NoWheel ?ty_NoWheel ?x_NoStroke ?kc_NoStroke ?sub_NoStroke ?ty_NoStroke ?hn0 ?ht0 ?hc_NoWheel ?hg_NoWheel ?hk_NoWheel ?hs_NoWheel ?ha_NoWheel ?hm_NoWheel ?hd_NoWheel ?sVE_NoWheel ?s_NoWheel_BeatError ?n_NoWheel_BeatError ?s_NoWheel_NoStroke ?n_NoWheel_NoStroke ?s_NoWheel_NoRow ?n_NoWheel_NoRow ?s_NoWheel_Uneven ?n_NoWheel_Uneven ?hc_NoStroke ?hg_NoStroke ?hk_NoStroke ?hs_NoStroke ?ha_NoStroke ?hm_NoStroke ?hd_NoStroke ?sVE_NoStroke ?s_NoStroke_BeatError ?n_NoStroke_BeatError ?s_NoStroke_NoWheel ?n_NoStroke_NoWheel ?s_NoStroke_NoRow ?n_NoStroke_NoRow ?s_NoStroke_Uneven ?n_NoStroke_Uneven
    (case a1 => k_is)
    (case l1 => k_is)
    (case c1 => k_is)
    (case k1 => k_is)
    (case a2 => k_is)
    (case l2 => k_is)
    (case c2 => k_is)
    (case k2 => k_is)
    (case a3 => k_is)
    (case l3 => k_is)
    (case c3 => k_is)
    (case k3 => k_is)
    (case a4 => k_is)
    (case l4 => k_is)
    (case c4 => k_is)
    (case k4 => k_is)
    (case a5 => k_is)
    (case l5 => k_is)
    (case c5 => k_is)
    (case k5 => k_is)
    (case a6 => k_is)
    (case l6 => k_is)
    (case c6 => k_is)
    (case k6 => k_is)
    (case a7 => k_is)
    (case l7 => k_is)
    (case c7 => k_is)
    (case k7 => k_is)
    (case a8 => k_is)
    (case l8 => k_is)
    (case c8 => k_is)
    (case k8 => k_is)
    (case a9 => k_is)
    (case l9 => k_is)
    (case c9 => k_is)
    (case k9 => k_is)
    (case a10 => k_is)
    (case l10 => k_is)
    (case c10 => k_is)
    (case k10 => k_is)
    (case a11 => k_is)
    (case l11 => k_is)
    (case c11 => k_is)
    (case k11 => k_is)
    (case a12 => k_is)
    (case l12 => k_is)
    (case c12 => k_is)
    (case k12 => k_is)
    (case a13 => k_is)
    (case l13 => k_is)
    (case c13 => k_is)
    (case k13 => k_is)
    (case z_len => k_is)
    (case z_isinstance => k_is)
    (case z_bool => k_is)
    (case z_int => k_is)
    (case z_ValueError => k_is)
    (case aC_BeatError => k_is)
    (case iC_BeatError => k_is)
    (case tC_BeatError => k_is)
    (case bC_BeatError => k_is)
    (case aC_NoWheel => k_is)
    (case iC_NoWheel => k_is)
    (case tC_NoWheel => k_is)
    (case bC_NoWheel => k_is)
    (case aC_NoStroke => k_is)
    (case iC_NoStroke => k_is)
    (case tC_NoStroke => k_is)
    (case bC_NoStroke => k_is)
    (case aC_NoRow => k_is)
    (case iC_NoRow => k_is)
    (case tC_NoRow => k_is)
    (case bC_NoRow => k_is)
    (case aC_Uneven => k_is)
    (case iC_Uneven => k_is)
    (case tC_Uneven => k_is)
    (case bC_Uneven => k_is)
    (case x_NoWheel => k_exc)
    (case kc_NoWheel => k_is)
    (case sub_NoWheel => k_is)
    (case ty_NoWheel => k_is)
    (case x_NoStroke => k_exc)
    (case kc_NoStroke => k_is)
    (case sub_NoStroke => k_is)
    (case ty_NoStroke => k_is)
    (case hn0 => k_is)
    (case ht0 => k_is)
    (case hc_NoWheel => k_is)
    (case hg_NoWheel => k_is)
    (case hk_NoWheel => k_is)
    (case hs_NoWheel => k_is)
    (case ha_NoWheel => k_is)
    (case hm_NoWheel => k_is)
    (case hd_NoWheel => k_is)
    (case sVE_NoWheel => k_is)
    (case s_NoWheel_BeatError => k_is)
    (case n_NoWheel_BeatError => rfl)
    (case s_NoWheel_NoStroke => k_is)
    (case n_NoWheel_NoStroke => rfl)
    (case s_NoWheel_NoRow => k_is)
    (case n_NoWheel_NoRow => rfl)
    (case s_NoWheel_Uneven => k_is)
    (case n_NoWheel_Uneven => rfl)
    (case hc_NoStroke => k_is)
    (case hg_NoStroke => k_is)
    (case hk_NoStroke => k_is)
    (case hs_NoStroke => k_is)
    (case ha_NoStroke => k_is)
    (case hm_NoStroke => k_is)
    (case hd_NoStroke => k_is)
    (case sVE_NoStroke => k_is)
    (case s_NoStroke_BeatError => k_is)
    (case n_NoStroke_BeatError => rfl)
    (case s_NoStroke_NoWheel => k_is)
    (case n_NoStroke_NoWheel => rfl)
    (case s_NoStroke_NoRow => k_is)
    (case n_NoStroke_NoRow => rfl)
    (case s_NoStroke_Uneven => k_is)
    (case n_NoStroke_Uneven => rfl)
