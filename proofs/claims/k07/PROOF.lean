import PyProof.Rows.All
import Wide.All
import OpenK.AllK
import Wide.FinOn
import PyProof.EqAt
import PyProof.EqKinds
import PyProof.TupleCall
import KE.KExcIs
import KE.GoesNew
import KE.GoesEnum
import PySem.Challenge.RW_evenbeat_k07_laid_is_even
import HandS.ForMost
import HandS.Zip
import HandS.Rev
import HandS.RevTup
import HandS.Defaults
import HandS.ForExc
import HandS.IsInst
import HandS.ExcIs
import HandS.ExcField
import HandS.ExcInit
import HandS.ExcValue
import HandS.Wide
import HandS.Style
import HandS.Conv
set_option Elab.async false
set_option linter.all false
set_option maxRecDepth 100000
set_option maxHeartbeats 4000000
set_option exponentiation.threshold 1000
/- An exception that an except suite hands to a name, read behind the suite: try .. except X as e: v = e; isinstance of v; v.f -/
namespace Eb
open PySem PySem.Spec PyProof.Rows L2

def ExH (a : Addr) (cls : Value) (d : Option Addr) : HO := .ext fun h => ∃ (oe : Obj) (vs : Array Value), h.get? a = some oe ∧ Zc cls d oe ∧ oe.data = .fields vs

theorem exh_ok {P : Program} {w : World} {H : Hp} {h : Heap} {a : Addr} {cls : Value} {d : Option Addr} {oe : Obj} {vs : Array Value}
    (e : h.get? a = some oe) (z : Zc cls d oe) (f : oe.data = .fields vs) : ObjOk P w H h a (ExH a cls d) :=
  ⟨⟨oe, vs, e, z, f⟩, ⟨oe, e⟩, fun _ _ ⟨o, v, q, r⟩ k => ⟨o, v, k o q, r⟩⟩
theorem exh_at {P : Program} {w : World} {H : Hp} {h : Heap} {a : Addr} {cls : Value} {d : Option Addr} (hok : HOk P w H h) (e : H a = some (ExH a cls d)) :
    ∃ (oe : Obj) (vs : Array Value), h.get? a = some oe ∧ Zc cls d oe ∧ oe.data = .fields vs := by
  have t : ObjOk P w H h a (.ext fun h => ∃ (oe : Obj) (vs : Array Value), h.get? a = some oe ∧ Zc cls d oe ∧ oe.data = .fields vs) := hok a _ e
  exact t.1

section
variable {X : Cx} {pins : List (Addr × Obj)} {σ : L2.St} {H : Hp} {s : Shared} {a : Addr} {oe : Obj} {vs : Array Value} {cls : Value} {d : Option Addr}

/-- an untracked exception object of ours is tracked from here on -/
theorem hold_it (I : Inv X pins σ H s) (e : s.heap.get? a = some oe) (z : Zc cls d oe) (f : oe.data = .fields vs) (na : H a = none) (nL : a ≠ X.env.locals)
    (n0 : X.s_0.heap.get? a = none) (np : ∀ p ∈ X.pn ++ pins, p.1 ≠ a) : Inv X pins σ (upd H a (ExH a cls d)) s := by
  have was : ∀ {b : Addr} {o : Obj}, X.s_0.heap.get? b = some o → b ≠ a := fun {b o} q w => by
    rw [w, n0] at q
    cases q
  refine ⟨I.ok, I.os, I.bare,
    { keep := I.base.keep, slot := I.base.slot, there := I.base.there,
      free := fun b o q n hx => (upd_ne (was q)).trans (I.base.free b o q n hx),
      tups := fun b xs q => (upd_ne (ne_of_none (I.base.tups b xs q) na)).trans (I.base.tups b xs q),
      frzs := fun b o u q => (upd_ne (ne_of_none (I.base.frzs b o u q) na)).trans (I.base.frzs b o u q),
      tbls := fun b ps q => ?_ }, I.loc, I.cell, (upd_ne (Ne.symm nL)).trans I.free, fun x c q => ?_, fun p hp => ?_, fun b o q => ?_, I.len⟩
  · obtain ⟨more, r⟩ := I.base.tbls b ps q
    exact ⟨more, (upd_ne (ne_of_none r na)).trans r⟩
  · have ca : c ≠ a := fun w => by
      obtain ⟨v, o, ho, hd⟩ := I.cell x c q
      rw [w, e] at ho
      cases ho
      rw [f] at hd
      cases hd
    exact (upd_ne ca).trans (I.freeC x c q)
  · obtain ⟨h1, h2, h3⟩ := I.pin p hp
    exact ⟨h1, (upd_ne (np p hp)).trans h2, h3⟩
  · by_cases hb : b = a
    · rw [hb, upd_same] at q
      rw [hb]
      cases q
      exact exh_ok e z f
    · rw [upd_ne hb] at q
      exact (I.hok b o q).stay (fun _ _ _ r => r) (fun c r => (upd_ne (ne_of_none r na)).trans r) fun c xs r => (upd_ne (ne_of_none r na)).trans r
end

/-- what «except x as n: m = n» wishes of an exception of the body (it is caught; n in slot i, m in slot j) -/
def wHeld (K : PySem.W.Frag) (c : Value) (i j : Nat) (D : Ends) : WX := fun cls d σ H => PySem.W.exmOne K cls c = some true ∧
  ∀ a, H a = none → D.nx (((σ.set i (some (.ref a))).set j (some (.ref a))).set i none) (upd H a (ExH a cls d))

section
variable {X : Cx} {x n m : Str} {c : Value} {i j : Nat} {body : List Stmt} {p1 p2 p3 np pos pos' : Pos} {tb : WX → TS}
theorem ps_try_held (hs : X.stack = X.env :: X.outer) (hf : X.env.frame = some X.env.locals) (hex : X.ex = []) (hN : X.N.Nodup) (hi : X.N[i]? = some n) (hln : X.env.kindOf n = some .local)
    (hj : X.N[j]? = some m) (hlm : Loc X.env.scope m) (hfm : X.fn m = true ∨ X.env.scope.names.lookup m = some .local) (hc : Names X x c) (hdn : (n == ("__debug__" : Str)) = false) (hcn : (n == ("__classdict__" : Str)) = false)
    (hb : ∀ (W : WX) (pn : List (Addr × Obj)) (xe : Value → Shared → Prop), Takes (X.tr pn xe) W → PassesOwn (model X.prog X.w) X.A X.env xe → PSs (X.tr pn xe) body (tb W)) :
    PS X (.Try body [.ExceptHandler (some (.Name x np)) (some n) [.Assign [.Name m p1] (.Name n p2) p3] pos'] [] [] pos) (fun D σ H => tb (wHeld X.K c i j D) D σ H) := by
  constructor
  intro pins s σ H D I h
  have ok := I.ok
  have A1 : X.A.frames = some (X.env :: X.outer) := by rw [ok.frames, hs]
  refine wpAny_Try_except ?_
  have R := (hb (wHeld X.K c i j D) (X.pn ++ pins)
    (fun e s1 => wpAny (model X.prog X.w) X.A (noteFrame e X.env)
      (fun _ s2 => wpAny (model X.prog X.w) X.A (setFlight e none)
        (fun _ s3 => wpAny (model X.prog X.w) X.A (handleBy e X.env [.ExceptHandler (some (.Name x np)) (some n) [.Assign [.Name m p1] (.Name n p2) p3] pos']) (SP X pins D) X.xe s3)
        X.xe s2) X.xe s1)
    (fun u s' xx => ?_) PassesOwn.looking).run [] s σ H D (I.toTry _) h
  · refine wpAny_mono R (fun f s1 r => ?_) fun _ _ r => r
    cases f with
    | next =>
      obtain ⟨σ1, H1, J, q⟩ := r
      exact wpAny_execs_nil ⟨σ1, H1, J.ofTry ok, q⟩
    | ret u =>
      obtain ⟨v, σ1, H1, J, t, q⟩ := r
      exact ⟨v, σ1, H1, J.ofTry ok, t, q⟩
    | brk =>
      obtain ⟨σ1, H1, J, q⟩ := r
      exact ⟨σ1, H1, J.ofTry ok, q⟩
    | cont =>
      obtain ⟨σ1, H1, J, q⟩ := r
      exact ⟨σ1, H1, J.ofTry ok, q⟩
  -- what the body raised
  obtain ⟨a, B, sI, pn1, σ1, H1, cls, d, rfl, J1, nb, up, sky, na, os, ag, hit, go⟩ := xx
  have J : Inv X pins σ1 H1 sI := J1.ofTry ok
  have sky1 : Sky B (X.env :: X.outer) a (Zc cls d) X.env.locals s'.heap := hs ▸ sky
  show wpAny (model X.prog X.w) X.A (noteFrame (.ref a) X.env) _ _ _
  refine Sky.land Zc.steady A1 hf sky1 fun h3 fl up3 => ?_
  have J3 : Inv X pins σ1 H1 { s' with heap := h3 } := J.landed nb fl.1 (up.trans up3) os ag
  obtain ⟨o3, v3, e3, z3, d3⟩ := fl.there
  have off : a ∉ frs (X.env :: X.outer) := fun hm => by
    obtain ⟨_, o, e, hnf⟩ := fl.2.2.1.mem hm
    rw [e3] at e
    cases e
    exact hnf _ d3
  have nL : a ≠ X.env.locals := fun z => off (List.mem_filterMap.mpr ⟨X.env, List.mem_cons_self, by rw [hf, z]⟩)
  have nF : a ∉ X.fs := fun hm => by
    obtain ⟨e, he, q⟩ := List.mem_filterMap.mp hm
    exact off (List.mem_filterMap.mpr ⟨e, List.mem_cons_of_mem _ he, q⟩)
  have new : ∀ b o, sI.heap.get? b = some o → b ∉ frs X.stack → b ≠ a := fun b o q hb z => by
    have t := nb b o q hb
    rw [z, fl.2.1] at t
    cases t
  have offS : a ∉ frs X.stack := by rw [hs]; exact off
  have n0 : X.s_0.heap.get? a = none := by
    cases q : X.s_0.heap.get? a with
    | none => rfl
    | some o =>
      obtain ⟨o1, q1⟩ := J.base.there a o q (by rw [hex]; exact fun z => nomatch z)
      exact absurd rfl (new a o1 q1 offS)
  have nP : ∀ p ∈ X.pn ++ pins, p.1 ≠ a := fun p hp => by
    obtain ⟨q1, q2, q3, q4, _⟩ := J.pin p hp
    refine new p.1 p.2 q1 fun hm => ?_
    rw [hs] at hm
    obtain ⟨e, he, q⟩ := List.mem_filterMap.mp hm
    rcases List.mem_cons.mp he with w | w
    · rw [w, hf] at q
      exact q3 (Option.some.inj q).symm
    · exact q4 (List.mem_filterMap.mpr ⟨e, w, q⟩)
  have S3 := J3.suite e3 d3 na nL nF
  refine wpAny_handleBy_cons (codeAny_handlers_test ?_) (by intro q; cases q)
  have LT : PySem.W.Looks (model X.prog X.w) h3 (typeOf (.ref a)) cls := fun A Q E s k q => wpAny_typeOf_ref (k _ _ e3) (by rw [z3.1]; exact q)
  have LM := PySem.W.exm_one (M := model X.prog X.w) J3.kIn LT hit
  have read : ∀ {Q E : Value → Shared → Prop}, Q c { s' with heap := h3 } → wpAny (model X.prog X.w) (X.A.mark (some (.ref a))) (eval (.Name x np) X.env) Q E { s' with heap := h3 } := fun {Q E} q => by
    obtain ⟨g1, g2, g3⟩ := hc
    rcases g3 with g | ⟨g, g4, g5⟩
    · exact ld_glob (X := X.suite a ((a, o3) :: (X.pn ++ pins))) S3 g1 g q g2
    · exact ld_blt (X := X.suite a ((a, o3) :: (X.pn ++ pins))) S3 g1 g g4 q g5 g2
  refine read (LM.here (codeAny_handlers_suite_as ?_))
  refine HandSPX.lands_againZ fl fun h4 fl4 up4 => ?_
  have J4 : Inv X pins σ1 H1 { s' with heap := h4 } := J.landed nb fl4.1 ((up.trans up3).trans up4) os ag
  obtain ⟨o4, v4, e4, z4, d4⟩ := fl4.there
  have S4 := J4.suite e4 d4 na nL nF
  refine store_ok (X := X.suite a ((a, o4) :: (X.pn ++ pins))) (v := .ref a) S4 hN hi (.inl hln) rfl (fun s5 S5 => ?_) (.inr hln)
  have W : PSs (X.suite a ((a, o4) :: (X.pn ++ pins))) [.Assign [.Name m p1] (.Name n p2) p3] (tAsg (tVar i) (gName j)) :=
    pss_one (ps_set (X := X.suite a ((a, o4) :: (X.pn ++ pins))) (i := j) hN hj hlm (pe_var (X := X.suite a ((a, o4) :: (X.pn ++ pins))) hi (.inl hln) hdn hcn) (by rfl) hfm)
  have lt : i < σ1.length := by
    rw [J.len]
    exact (List.getElem?_eq_some_iff.mp hi).1
  refine wpAny_mono (W.run [] s5 _ H1 { nx := fun σ' H' => σ' = (σ1.set i (some (.ref a))).set j (some (.ref a)) ∧ H' = H1, rt := fun _ _ => False, bk := fun _ _ => False, ct := fun _ _ => False } S5 ⟨.ref a, List.getElem?_set_self lt, rfl, rfl⟩) (fun f s6 r => ?_) (fun _ _ z => z.elim)
  cases f with
  | next =>
    obtain ⟨σ6, H6, S6, rfl, rfl⟩ := r
    have pa := S6.pin (a, o4) (List.mem_append_left _ List.mem_cons_self)
    have J6 : Inv X pins _ H6 s6 := S6.unsuite ok
    have K6 : Inv X ((a, o4) :: pins) _ H6 s6 := J6.pins_of fun p hp => by
      rcases List.mem_cons.mp hp with w | w
      · rw [w]
        exact pa
      · exact J6.pin p (List.mem_append_right _ w)
    refine gone_ok K6 hN hi hln fun s7 J7 => ?_
    have p7 := J7.pin (a, o4) (List.mem_append_right _ List.mem_cons_self)
    have M7 : Inv X pins _ H6 s7 := J7.pins_of fun p hp => J7.pin p (List.mem_append_right _ (List.mem_cons_of_mem _ hp))
    exact ⟨_, _, hold_it M7 p7.1 z4 d4 p7.2.1 nL n0 nP, go a na⟩
  | ret u =>
    obtain ⟨_, _, _, _, _, q⟩ := r
    exact q.elim
  | brk =>
    obtain ⟨_, _, _, q⟩ := r
    exact q.elim
  | cont =>
    obtain ⟨_, _, _, q⟩ := r
    exact q.elim
end

/-! ### isinstance of such a held exception -/
/-- what the class D must say: as of one that a suite holds, and that it is a class of the text -/
structure HeldC (K : PySem.W.Frag) (D : Addr) : Prop extends ExcC K D where
  hc : (PySem.W.clsIn K D).isSome = true

/-- the held exception stands as an instance of its class -/
def Stood (H : Hp) (a D : Addr) (d : Option Addr) : Prop := H a = some (ExH a (.ref D) d) ∧ ∀ dd, d = some dd → ∃ fs, H dd = some (.xd fs)
theorem stood_inst {P : Program} {w : World} {H : Hp} {h : Heap} {a D : Addr} {d : Option Addr} (hok : HOk P w H h) (t : Stood H a D d) : ∃ ox od, PySem.W.InstAt h a ox D od := by
  obtain ⟨oe, vs, e, z, f⟩ := exh_at hok t.1
  cases d with
  | none => exact ⟨oe, none, e, z.1, by unfold PySem.W.notCls; rw [f] <;> rfl, by rw [z.2]; trivial⟩
  | some dd =>
    obtain ⟨fs, q⟩ := t.2 dd rfl
    have x : ObjOk P w H h dd (.xd fs) := hok dd _ q
    obtain ⟨mA, hns, _⟩ := x
    obtain ⟨o, _, _, ho, _⟩ := hns
    exact ⟨oe, some o, e, z.1, by unfold PySem.W.notCls; rw [f] <;> rfl, by rw [z.2]; exact ho⟩
section
variable {X : Cx}
def rIsH (K : PySem.W.Frag) : List V → Hp → VK → Prop := fun xs H Q => ∃ (a D : Addr) (d : Option Addr) (c : V) (cv : Value) (b : Bool), xs = [.ref a, c] ∧ Stood H a D d ∧ HeldC K D ∧ ClsV c cv ∧ PySem.W.kitOne K (.ref D) cv = some b ∧ Q (.bl b) H
def rIsHT (K : PySem.W.Frag) : List V → Hp → VK → Prop := fun xs H Q => ∃ (a D tp : Addr) (d : Option Addr) (cs : List V) (us : List Value) (b : Bool), xs = [.ref a, .ref tp] ∧ Stood H a D d ∧ HeldC K D ∧ H tp = some (.tup cs) ∧ Paired ClsV cs us ∧ PySem.W.kitAny K (.ref D) us = some b ∧ Q (.bl b) H
theorem held_kit {D a : Addr} {od : Option Obj} {ox : Obj} {K : PySem.W.Frag} (C : HeldC K D) : PySem.W.KitX K (.ref a) (.ref D) (fun h => PySem.W.InstAt h a ox D od) :=
  PySem.W.kitx_exc C.hc C.hg C.hk C.hs C.ha C.hn C.ht C.hm
theorem call_isH : CallR X (.builtin "isinstance") (rIsH X.K) := by
  intro pins s σ H xs us Q I r h
  obtain ⟨a, D, d, c, cv, b, rfl, st, C, kc, e, q⟩ := h
  obtain ⟨u1, u2, rfl, r1, r2⟩ := vals2 r
  cases (show u1 = Value.ref a from r1)
  have e2 := kc.eq r2
  subst e2
  obtain ⟨ox, od, J⟩ := stood_inst I.hok st
  exact PySem.W.kia_one (held_kit C) I.kIn J e (fun z => nomatch z) fun tk => ⟨.bl b, H, I.tok tk, rfl, q⟩
theorem call_isHT : CallR X (.builtin "isinstance") (rIsHT X.K) := by
  intro pins s σ H xs us Q I r h
  obtain ⟨a, D, tp, d, cs, ws, b, rfl, st, C, hT, kc, e, q⟩ := h
  obtain ⟨u1, u2, rfl, r1, r2⟩ := vals2 r
  cases (show u1 = Value.ref a from r1)
  cases (show u2 = Value.ref tp from r2)
  obtain ⟨ox, od, J⟩ := stood_inst I.hok st
  obtain ⟨_, its, rv, o, h1, h2, n, h3⟩ := (show ObjOk X.prog X.w H s.heap tp (.tup cs) from I.hok tp _ hT)
  have e3 := ClsV.all kc rv
  subst e3
  obtain ⟨oc, od', dt, sl⟩ := o
  simp only at h2 h3
  subst h2 h3
  exact PySem.W.kia_tup (held_kit C) I.kIn J h1 e (fun z => nomatch z) fun tk => ⟨.bl b, H, I.tok tk, rfl, q⟩
end
/-- v.f of a held exception whose own dict stands at dd -/
def tHeldF (K : PySem.W.Frag) (f : Str) (te : TE) : TE := fun σ H Q => te σ H fun x H1 => ∃ (a D dd : Addr) (fs : List (Str × V)) (v : V), x = .ref a ∧ H1 a = some (ExH a (.ref D) (some dd)) ∧ H1 dd = some (.xd fs) ∧ HeldC K D ∧ PySem.W.findIn K (.ref D) f = some none ∧ fs.lookup f = some v ∧ Q v H1
theorem pe_heldF {X : Cx} {e : Expr} {te : TE} {pos : Pos} {n : Str} (he : PE X e te) (hb : attributeBase e n X.env (eval e X.env) = eval e X.env := by rfl) : PE X (.Attribute e n pos) (tHeldF X.K n te) := by
  refine ⟨fun pins s σ H Q I h => ?_⟩
  refine attr_of hb (thn (he.run pins s σ H _ I h) fun u s1 hh => ?_)
  obtain ⟨x, H1, I1, rx, a, D, dd, fs, v, rfl, ea, ed, C, hno, l, q⟩ := hh
  obtain rfl : u = Value.ref a := rx
  obtain ⟨oe, vs, e4, z, hd⟩ := exh_at I1.hok ea
  have hx : ObjOk X.prog X.w H1 s1.heap dd (.xd fs) := I1.hok dd _ ed
  obtain ⟨mA, hns, hr⟩ := hx
  obtain ⟨od, ho, hl⟩ := lookIn_ns hns
  obtain ⟨u, hu, ru⟩ := RelO.some_of (v := v) (o := mA n) (by rw [← l]; exact hr n)
  have J : PySem.W.InstAt s1.heap a oe D (some od) := ⟨e4, z.1, by unfold PySem.W.notCls; rw [hd] <;> rfl, by rw [z.2]; exact ho⟩
  exact HandSPX.exc_get I1.kIn J C.hg C.hk C.hs (PySem.W.findObj_own C.hd hno rfl (by rw [hl, hu])) (handed_of ru) ⟨v, H1, I1.tok _, ru, q⟩
end Eb
namespace Eb
open PySem PySem.Spec PyProof.Rows L2
theorem kit_self {K : PySem.W.Frag} {D : Addr} : PySem.W.kitOne K (.ref D) (.ref D) = some true := by
  unfold PySem.W.kitOne
  rw [if_pos (by simp)]
theorem kit_cls {K : PySem.W.Frag} {D C : Addr} {b : Bool} (i : PySem.W.isClsIn K C = true) (t : PySem.W.typeIn K (.ref C) = some (.type "type")) (s : PySem.W.subIn K (.ref D) (.ref C) = some b) : PySem.W.kitCls K (.ref D) (.ref C) = some b := by
  have i2 : (PySem.W.clsIn K C).isSome = true := i
  unfold PySem.W.kitCls
  dsimp only
  rw [i2, t, if_pos (by rfl), s]
theorem kit_other {K : PySem.W.Frag} {D C : Addr} {b : Bool} (i : PySem.W.isClsIn K C = true) (t : PySem.W.typeIn K (.ref C) = some (.type "type")) (s : PySem.W.subIn K (.ref D) (.ref C) = some b) (n : (D == C) = false) : PySem.W.kitOne K (.ref D) (.ref C) = some b := by
  unfold PySem.W.kitOne
  have e : (Value.ref D == Value.ref C) = false := by
    have n' : D ≠ C := by simpa using n
    simpa using n'
  rw [e, if_neg Bool.false_ne_true]
  exact kit_cls i t s
theorem exm_other {K : PySem.W.Frag} {D C : Addr} {b : Bool} (x : PySem.W.subIn K (.ref C) (.type "BaseException") = some true) (i : PySem.W.isClsIn K C = true) (t : PySem.W.typeIn K (.ref C) = some (.type "type")) (s : PySem.W.subIn K (.ref D) (.ref C) = some b) :
    PySem.W.exmOne K (.ref D) (.ref C) = some b := by
  unfold PySem.W.exmOne
  rw [x, if_pos (by rfl)]
  exact kit_cls i t s
theorem kit_VE {K : PySem.W.Frag} {D : Addr} {b : Bool} (s : PySem.W.subIn K (.ref D) (.type "ValueError") = some b) : PySem.W.kitOne K (.ref D) (.type "ValueError") = some b := by
  unfold PySem.W.kitOne
  rw [if_neg (by simp)]
  show (if PySem.W.kitMeta "ValueError" = true then PySem.W.subIn K (.ref D) (.type "ValueError") else none) = some b
  rw [if_pos (by decide +kernel), s]
end Eb
/-! readings, one step a lemma; «walk_at "rd"» takes the steps that need no thought -/
namespace Eb
open PySem PySem.Spec PyProof.Rows L2
section
variable {σ : L2.St} {H : Hp} {Q : VK} {D : Ends} {v x y : V} {ta tb te : TE} {tr : TA} {t u : TS} {c c' : TT} {i j : Int} {k : Bool} {R : L2.St → Hp → Prop} {QT : Bool → Hp → Prop} {QA : List V → Hp → Prop}
theorem rd_var {n : Nat} (h : σ[n]? = some (some v)) (q : Q v H) : tVar n σ H Q := ⟨v, h, q⟩
theorem rd_c (q : Q v H) : tC v σ H Q := q
theorem rd_op {r : R2} (q : ta σ H fun x H1 => tb σ H1 fun y H2 => r x y H2 Q) : tOp r ta tb σ H Q := q
theorem rd_un {r : V → Hp → VK → Prop} (q : ta σ H fun x H1 => r x H1 Q) : tUn r ta σ H Q := q
theorem rd_I0 {g : Int → Int → V} (q : Q (g i j) H) : rI0 g (.int i) (.int j) H Q := ⟨i, j, rfl, rfl, q⟩
theorem rd_I {C : Int → Int → Prop} {g : Int → Int → V} (hc : C i j) (q : Q (g i j) H) : rI C g (.int i) (.int j) H Q := ⟨i, j, rfl, rfl, hc, q⟩
theorem rd_U {g : Int → V} (q : Q (g i) H) : rU g (.int i) H Q := ⟨i, rfl, q⟩
theorem rd_eqI (q : Q (.bl (decide (V.int i = V.int j))) H) : rEq (.int i) (.int j) H Q := ⟨rfl, q⟩
theorem rd_neI (q : Q (.bl (!decide (V.int i = V.int j))) H) : rNe (.int i) (.int j) H Q := ⟨rfl, q⟩
theorem rd_cons (q : ta σ H fun x H1 => tr σ H1 fun xs H2 => QA (x :: xs) H2) : tCons ta tr σ H QA := q
theorem rd_nil (q : QA [] H) : tNil σ H QA := q
theorem rd_cb {r : List V → Hp → VK → Prop} (q : tr σ H fun vs H1 => r vs H1 Q) : tCB r tr σ H Q := q
theorem rd_call {sp : Sp} {dvs : List V} {E : XK} (q : tr σ H fun vs H1 => sp (vs ++ dvs) H1 Q E) : tCall sp dvs E tr σ H Q := q
theorem rd_callS {sp : Sp} {E : L2.St → XK} (q : tr σ H fun vs H1 => sp vs H1 Q (E σ)) : tCallS sp E tr σ H Q := q
theorem rd_test (q : te σ H fun x H' => ∃ k, x = .bl k ∧ QT k H') : tTest te σ H QT := q
theorem rd_tb (q : te σ H fun x H' => ∃ k, x = .bl k ∧ QT k H') : tB te σ H QT := q
theorem rd_bl {q' : Bool → Prop} (q : q' k) : ∃ k', V.bl k = .bl k' ∧ q' k' := ⟨k, rfl, q⟩
theorem rd_and (q : c σ H fun b H1 => if b = true then c' σ H1 QT else QT false H1) : tAnd c c' σ H QT := q
theorem rd_or (q : c σ H fun b H1 => if b = true then QT true H1 else c' σ H1 QT) : tOr c c' σ H QT := q
theorem rd_not (q : c σ H fun b H1 => QT (!b) H1) : tNot c σ H QT := q
theorem rd_andV (q : ta σ H fun x H1 => ∃ b, x = .bl b ∧ if b = true then tb σ H1 Q else Q (.bl false) H1) : tAndV ta tb σ H Q := q
theorem rd_orV (q : ta σ H fun x H1 => ∃ b, x = .bl b ∧ if b = true then Q (.bl true) H1 else tb σ H1 Q) : tOrV ta tb σ H Q := q
theorem rd_notV (q : ta σ H fun x H1 => ∃ b, x = .bl b ∧ Q (.bl (!b)) H1) : tNotV ta σ H Q := q
theorem rd_ifE (q : c σ H fun b H1 => if b = true then ta σ H1 Q else tb σ H1 Q) : tIf c ta tb σ H Q := q
theorem rd_asg {g : TG} (q : te σ H fun x H1 => g x σ H1 D.nx) : tAsg te g D σ H := q
theorem rd_gn {n : Nat} (q : R (σ.set n (some v)) H) : gName n v σ H R := q
theorem rd_seq (q : t { D with nx := u D } σ H) : tSeq t u D σ H := q
theorem rd_ret (q : te σ H D.rt) : tRet te D σ H := q
theorem rd_ifS (q : c σ H fun b H1 => if b = true then t D σ H1 else u D σ H1) : tIfS c t u D σ H := q
theorem rd_drop (q : te σ H fun _ H1 => D.nx σ H1) : tDrop te D σ H := q
theorem rd_next (q : D.nx σ H) : tNext D σ H := q
theorem rd_tup (q : tr σ H fun xs H1 => xs.length ≤ sizeLine ∧ ∀ p, H1 p = none → Q (.ref p) (upd H1 p (.tup xs))) : tTup tr σ H Q := q
theorem rd_lst (q : tr σ H fun xs H1 => xs.length ≤ sizeLine ∧ ∀ p, H1 p = none → Q (.ref p) (upd H1 p (.lst xs))) : tLst tr σ H Q := q
theorem rd_ixL {K : PySem.W.Frag} {p : Addr} {xs : List V} (hs : SqL K H p xs) (hi : atI xs i = some v) (q : Q v H) : rIxL K (.ref p) (.int i) H Q := ⟨p, xs, i, v, rfl, rfl, hs, hi, q⟩
theorem rd_ixT {K : PySem.W.Frag} {p : Addr} {xs : List V} (hs : SqT K H p xs) (hi : atI xs i = some v) (q : Q v H) : rIxT K (.ref p) (.int i) H Q := ⟨p, xs, i, v, rfl, rfl, hs, hi, q⟩
theorem rd_sl {r : V → Option Int → Option Int → Hp → VK → Prop} {tl th : TO} (q : te σ H fun x H1 => tl σ H1 fun l H2 => th σ H2 fun u H3 => r x l u H3 Q) : tSl r te tl th σ H Q := q
theorem rd_no {QO : Option Int → Hp → Prop} (q : QO none H) : tNoPart σ H QO := q
theorem rd_slL {K : PySem.W.Frag} {p : Addr} {xs : List V} {lo hi : Option Int} (hs : SqL K H p xs) (q : ∀ n, H n = none → Q (.ref n) (upd H n (.lst (cutV xs lo hi)))) : rSlL K (.ref p) lo hi H Q := ⟨p, xs, rfl, hs, q⟩
theorem rd_for {wi : TI} {g : TG} {tb : TS} (q : wi σ H fun J H1 => ∃ W : Nat → Nat → L2.St → Hp → Prop, (∃ m, W 0 m σ H1) ∧ ∀ i m σ H, W i m σ H →
  (J.stop i H ∧ D.nx σ H) ∨ (J.go i H ∧ ∃ N : L2.St → Hp → Prop, (∀ σ' H', N σ' H' → ∃ m', m' < m ∧ W (i + 1) m' σ' H') ∧ ∀ x H', J.yld i H x H' → g x σ H' fun σ2 H2 => tb { D with nx := N, ct := N, bk := D.nx } σ2 H2)) : tFor wi g tb D σ H := q
theorem rd_lc {wi : TI} {g : TG} {tt : TT} {vs : List Nat} (q : wi σ H fun J H1 => ∀ D, H1 D = none → ∃ W : Nat → Nat → Hp → Prop, (∃ m, W 0 m (upd H1 D (.lst []))) ∧ ∀ i m H, W i m H →
  (J.stop i H ∧ Q (.ref D) H) ∨ (J.go i H ∧ ∃ Nx : Hp → Prop, (∀ H', Nx H' → ∃ m', m' < m ∧ W (i + 1) m' H') ∧ ∀ x H', J.yld i H x H' → g x (wipe σ vs) H' fun σ2 H2 => wipe σ2 vs = wipe σ vs ∧ tt σ2 H2 fun b H3 =>
    if b = true then te σ2 H3 fun y H4 => ∃ acc, H4 D = some (.lst acc) ∧ acc.length < sizeLine ∧ Nx (upd H4 D (.lst (acc ++ [y]))) else Nx H3)) : tLc wi g tt te vs σ H Q := q
theorem rd_tyes (q : QT true H) : tYes σ H QT := q
theorem rd_rng1 {R : It → Hp → Prop} (q : tr σ H fun vs H1 => ∃ j : Int, vs = [.int j] ∧ -(2 ^ 62) ≤ j ∧ j < 2 ^ 62 ∧ R (Itr 0 j.toNat) H1) : iRng1 tr σ H R := q
theorem rd_ni {K : PySem.W.Frag} {p : Addr} {xs : List V} (hT : H p = some (.tup xs)) (hx : flatV x = true) (hxs : xs.all flatV = true) (q : Q (.bl (!inV x xs)) H) : rIn K true x (.ref p) H Q := ⟨p, xs, rfl, .inr (SqT.of hT), hx, hxs, q⟩
theorem rd_set {p : Addr} {xs : List V} {n : Nat} {R' : Hp → Prop} (h : H p = some (.lst xs)) (hj : ixN xs.length i = some n) (q : R' (upd H p (.lst (xs.set n v)))) : rSetL (.ref p) (.int i) v H R' := ⟨p, xs, i, n, rfl, rfl, h, hj, q⟩
theorem rd_gsub {to ti : TE} {t : TSet} (q : to σ H fun o H1 => ti σ H1 fun i H2 => t o i v H2 fun H3 => R σ H3) : gSub to ti t v σ H R := q
theorem rd_lrg {te' : L2.St → Hp → (Int → Int → Hp → Prop) → Prop} (q : te' σ H fun a b H1 => RgOk a b ∧ ∀ q, H1 q = none → Q (.ref q) (upd H1 q (.lst (rgV a b)))) : tLstRg te' σ H Q := q
theorem rd_rg1 {QR : Int → Int → Hp → Prop} (q : te σ H fun x H1 => ∃ n, x = .int n ∧ QR 0 n H1) : tRg1 te σ H QR := q
theorem rgV_ints (n : Int) : rgV 0 n = ((List.range n.toNat).map fun k => ((k : Nat) : Int)).map V.int := by
  unfold rgV
  rw [List.map_map, Int.sub_zero]
  refine List.map_congr_left fun k _ => ?_
  show V.int (0 + (k : Int)) = V.int (k : Int)
  rw [Int.zero_add]
def rAddZ : R2 := fun x y H Q => ∃ i j, x = .str i ∧ y = .str j ∧ i.length + j.length ≤ sizeLine ∧ Q (.str (i ++ j)) H
theorem op_addZ {X : Cx} : OpR X (binaryOp .Add) rAddZ := op_add_str
theorem rd_addZ {a b : Str} (h : a.length + b.length ≤ 1000) (q : Q (.str (a ++ b)) H) : rAddZ (.str a) (.str b) H Q := ⟨a, b, rfl, rfl, Nat.le_of_lt (small1000 h), q⟩
theorem rd_slS {z : Str} {lo hi : Option Int} (h : z.length ≤ 1000) (q : Q (.str (cutS z lo hi)) H) : rSlS (.str z) lo hi H Q := ⟨z, rfl, Nat.le_of_lt (small1000 h), q⟩
theorem rd_ixZ {z : Str} {c : Nat} (h : z.length ≤ 1000) (hi : atI z.cps.toList i = some c) (q : Q (.str ⟨#[c]⟩) H) : rIxS (.str z) (.int i) H Q := ⟨z, i, c, rfl, rfl, Nat.le_of_lt (small1000 h), hi, q⟩
theorem rd_eqZ {a b : Str} (q : Q (.bl (decide (V.str a = V.str b))) H) : rEq (.str a) (.str b) H Q := ⟨rfl, q⟩
theorem rd_neZ {a b : Str} (q : Q (.bl (!decide (V.str a = V.str b))) H) : rNe (.str a) (.str b) H Q := ⟨rfl, q⟩
theorem rd_chain {r r' : R2} {tc : TE} (q : ta σ H fun x H1 => tb σ H1 fun y H2 => r x y H2 fun z H3 => ∃ k, z = .bl k ∧ (if k = true then tc σ H3 fun w' H4 => r' y w' H4 Q else Q (.bl false) H3)) : tChain r r' ta tb tc σ H Q := q
theorem rd_m1 {r : V → List V → Hp → VK → Prop} (q : ta σ H fun x H1 => (∃ a, x = .str a) ∧ te σ H1 fun y H2 => r x [y] H2 Q) : tM1 r ta te σ H Q := q
theorem rd_isZ {a : Str} {B : Prop} (q : B) : (∃ a', V.str a = .str a') ∧ B := ⟨⟨a, rfl⟩, q⟩
theorem rd_gtup {K : PySem.W.Frag} {tg : TGs} {n : Nat} {p : Addr} {xs : List V} (hT : H p = some (.tup xs)) (hn : xs.length = n) (q : tg xs σ H R) : gTup K n tg (.ref p) σ H R := ⟨p, xs, rfl, SqT.of hT, hn, q⟩
theorem rd_gcons {tg : TG} {tgs : TGs} {r : List V} (q : tg v σ H fun σ' H' => tgs r σ' H' R) : gCons tg tgs (v :: r) σ H R := ⟨v, r, rfl, q⟩
theorem rd_gnil (q : R σ H) : gNil [] σ H R := ⟨rfl, q⟩
theorem rd_is {tl : TE} {RI : It → Hp → Prop} (q : tl σ H fun v H1 => ∃ x, v = .str x ∧ RI (Its x) H1) : iStr tl σ H RI := q
theorem rd_isx {x : Str} {B : Str → Prop} (q : B x) : ∃ x', V.str x = .str x' ∧ B x' := ⟨x, rfl, q⟩
theorem rd_il {K : PySem.W.Frag} {tl : TE} {R : It → Hp → Prop} (q : tl σ H fun x H1 => ∃ a, x = .ref a ∧ (∃ xs, SqL K H1 a xs) ∧ R (Itl K a) H1) : iList K tl σ H R := q
theorem rd_part {QO : Option Int → Hp → Prop} (q : te σ H fun x H1 => ∃ i, x = .int i ∧ QO (some i) H1) : tPart te σ H QO := q
theorem rd_partI {QI : Int → Prop} (q : QI i) : ∃ i', V.int i = .int i' ∧ QI i' := ⟨i, rfl, q⟩
theorem rd_bm {K : PySem.W.Frag} {T : String} {r : V → List V → Hp → VK → Prop} (q : te σ H fun x H1 => tyV K T x H1 ∧ tr σ H1 fun xs H2 => r x xs H2 Q) : tBM K T r te tr σ H Q := q
theorem rd_bm0 {K : PySem.W.Frag} {T : String} {r : V → List V → Hp → VK → Prop} (q : te σ H fun x H1 => tyV K T x H1 ∧ r x [] H1 Q) : tBM0 K T r te σ H Q := q
theorem rd_tyL {K : PySem.W.Frag} {p : Addr} {xs : List V} {B : Prop} (hs : H p = some (.lst xs)) (q : B) : tyV K "list" (.ref p) H ∧ B := ⟨.inl ⟨rfl, _, SqL.of hs⟩, q⟩
theorem rd_app {p : Addr} {xs : List V} (hs : H p = some (.lst xs)) (hz : xs.length < 1000) (q : Q .non (upd H p (.lst (xs ++ [y])))) : rAppend (.ref p) [y] H Q := ⟨p, xs, y, rfl, rfl, hs, small1000 (Nat.le_of_lt hz), q⟩
theorem rd_cat {p r : Addr} {xs ys : List V} (hx : H p = some (.lst xs)) (hy : H r = some (.lst ys)) (hz : xs.length + ys.length ≤ 1000) (q : ∀ n, H n = none → Q (.ref n) (upd H n (.lst (xs ++ ys)))) : rCat (.ref p) (.ref r) H Q :=
  ⟨p, r, xs, ys, rfl, rfl, hx, hy, Nat.le_of_lt (small1000 hz), q⟩
theorem rd_max {K : PySem.W.Frag} {p : Addr} {ns : List Int} (hs : SqL K H p (ns.map V.int)) (h0 : 0 < ns.length) (q : ∀ m, m ∈ ns → (∀ y, y ∈ ns → y ≤ m) → Q (.int m) H) : rMax K [.ref p] H Q := ⟨p, ns, rfl, hs, h0, q⟩
theorem rd_minL {K : PySem.W.Frag} {p : Addr} {ns : List Int} (hs : SqL K H p (ns.map V.int)) (h0 : 0 < ns.length) (q : ∀ m, m ∈ ns → (∀ y, y ∈ ns → m ≤ y) → Q (.int m) H) : rMin K [.ref p] H Q := ⟨p, ns, rfl, hs, h0, q⟩
theorem rd_sum {K : PySem.W.Frag} {p : Addr} {ns : List Int} (hs : SqL K H p (ns.map V.int)) (q : Q (.int ns.sum) H) : rSum K [.ref p] H Q := ⟨p, ns, rfl, hs, q⟩
theorem rd_eqB {a b : Bool} (q : Q (.bl (decide (V.bl a = V.bl b))) H) : rEq (.bl a) (.bl b) H Q := ⟨rfl, q⟩
theorem rd_neB {a b : Bool} (q : Q (.bl (!decide (V.bl a = V.bl b))) H) : rNe (.bl a) (.bl b) H Q := ⟨rfl, q⟩
theorem rd_isB {a b : Bool} (q : Q (.bl (decide (a = b))) H) : rIsB (.bl a) (.bl b) H Q := ⟨a, b, rfl, rfl, q⟩
theorem rd_niB {a b : Bool} (q : Q (.bl (!decide (a = b))) H) : rNotB (.bl a) (.bl b) H Q := ⟨a, b, rfl, rfl, q⟩
/- tests whose answer is known -/
theorem rd_yes {p : Prop} [Decidable p] {A B : Prop} (hp : p) (h : A) : if decide p = true then A else B := by
  rw [if_pos (decide_eq_true hp)]
  exact h
theorem rd_nay {p : Prop} [Decidable p] {A B : Prop} (hp : ¬ p) (h : B) : if decide p = true then A else B := by
  rw [if_neg (by rw [decide_eq_false hp]; exact Bool.false_ne_true)]
  exact h
theorem rd_split {p : Prop} [Decidable p] {A B : Prop} (h1 : p → A) (h2 : ¬ p → B) : if decide p = true then A else B := by
  by_cases hp : p
  · exact rd_yes hp (h1 hp)
  · exact rd_nay hp (h2 hp)
theorem rd_splitN {p : Prop} [Decidable p] {A B : Prop} (h1 : ¬ p → A) (h2 : p → B) : if (!decide p) = true then A else B := by
  by_cases hp : p
  · rw [decide_eq_true hp]
    exact iteF (h2 hp)
  · rw [decide_eq_false hp]
    exact iteT (h1 hp)
theorem rd_nt {A B : Prop} (h : B) : if (!true) = true then A else B := iteF h
theorem rd_nf {A B : Prop} (h : A) : if (!false) = true then A else B := iteT h
theorem intEq : (V.int i = V.int j) = (i = j) := propext ⟨fun h => V.int.inj h, fun h => by rw [h]⟩
/- builtins by names of ours (the readings have a head then) -/
def rLenL (K : PySem.W.Frag) : List V → Hp → VK → Prop := fun xs H Q => ∃ p ys, xs = [.ref p] ∧ (SqL K H p ys ∨ SqT K H p ys) ∧ Q (.int ys.length) H
theorem call_lenL {X : Cx} : CallR X (.builtin "len") (rLenL X.K) := call_len_seq
theorem rd_len {K : PySem.W.Frag} {p : Addr} {ys : List V} (hs : SqL K H p ys) (q : Q (.int ys.length) H) : rLenL K [.ref p] H Q := ⟨p, ys, rfl, .inl hs, q⟩
theorem rd_lenT {K : PySem.W.Frag} {p : Addr} {ys : List V} (hs : SqT K H p ys) (q : Q (.int ys.length) H) : rLenL K [.ref p] H Q := ⟨p, ys, rfl, .inr hs, q⟩
def rLenZ : List V → Hp → VK → Prop := fun xs H Q => ∃ z, xs = [.str z] ∧ z.length ≤ sizeLine ∧ Q (.int z.length) H
theorem call_lenZ {X : Cx} : CallR X (.builtin "len") rLenZ := call_len_str
theorem rd_lenZ {z : Str} (h : z.length ≤ sizeLine) (q : Q (.int z.length) H) : rLenZ [.str z] H Q := ⟨z, rfl, h, q⟩
def rIntB : List V → Hp → VK → Prop := fun xs H Q => (∃ i, xs = [.int i] ∧ Q (.int i) H) ∨ ∃ k, xs = [.bl k] ∧ Q (.int (if k then 1 else 0)) H
theorem call_intB {X : Cx} : CallR X (.type "int") rIntB := call_int1
theorem rd_int (q : Q (.int (if k then 1 else 0)) H) : rIntB [.bl k] H Q := .inr ⟨k, rfl, q⟩
def rMin2 : List V → Hp → VK → Prop := fun xs H Q => ∃ i j, xs = [.int i, .int j] ∧ Q (.int (if j < i then j else i)) H
theorem call_minI {X : Cx} (hc : X.calm = true) : CallR X (.builtin "min") rMin2 := call_min2 hc
theorem rd_min (q : Q (.int (if j < i then j else i)) H) : rMin2 [.int i, .int j] H Q := ⟨i, j, rfl, q⟩
def rLst (K : PySem.W.Frag) : List V → Hp → VK → Prop := fun xs H Q => ∃ p ys, xs = [.ref p] ∧ (SqL K H p ys ∨ SqT K H p ys) ∧ ∀ l, H l = none → Q (.ref l) (upd H l (.lst ys))
theorem call_lstL {X : Cx} : CallR X (.type "list") (rLst X.K) := call_list_of
theorem rd_lstOf {K : PySem.W.Frag} {p : Addr} {ys : List V} (hs : SqL K H p ys) (q : ∀ l, H l = none → Q (.ref l) (upd H l (.lst ys))) : rLst K [.ref p] H Q := ⟨p, ys, rfl, .inl hs, q⟩
theorem rd_lstOfT {K : PySem.W.Frag} {p : Addr} {ys : List V} (hs : SqT K H p ys) (q : ∀ l, H l = none → Q (.ref l) (upd H l (.lst ys))) : rLst K [.ref p] H Q := ⟨p, ys, rfl, .inr hs, q⟩
/- isinstance -/
theorem rd_isi {K : PySem.W.Frag} {z w : V} {t' u' : Value} (ty : TyX K H z t') (kc : ClsV w u') (e : PySem.W.kitOne K t' u' = some k) (q : Q (.bl k) H) : rIsi K [z, w] H Q := ⟨z, w, t', u', k, rfl, kc, ty, e, q⟩
theorem rd_isiII {K : PySem.W.Frag} (q : Q (.bl true) H) : rIsi K [.int i, .ty "int"] H Q := rd_isi (.base (.int i)) (.ty _) (kit_ty (by decide +kernel)) q
theorem rd_isiIB {K : PySem.W.Frag} (q : Q (.bl false) H) : rIsi K [.int i, .ty "bool"] H Q := rd_isi (.base (.int i)) (.ty _) (kit_ty (by decide +kernel)) q
theorem rd_isiBB {K : PySem.W.Frag} (q : Q (.bl true) H) : rIsi K [.bl k, .ty "bool"] H Q := rd_isi (.base (.bl k)) (.ty _) (kit_ty (by decide +kernel)) q
theorem rd_isiL {K : PySem.W.Frag} {p : Addr} {ys : List V} (hs : H p = some (.lst ys)) (q : Q (.bl true) H) : rIsi K [.ref p, .ty "list"] H Q := rd_isi (.base (.lst hs)) (.ty _) (kit_ty (by decide +kernel)) q
theorem rd_isiT {K : PySem.W.Frag} {p : Addr} {ys : List V} (hs : H p = some (.tup ys)) (q : Q (.bl true) H) : rIsi K [.ref p, .ty "tuple"] H Q := rd_isi (.base (.tup hs)) (.ty _) (kit_ty (by decide +kernel)) q
theorem rd_isiS {K : PySem.W.Frag} {z : Str} (q : Q (.bl true) H) : rIsi K [.str z, .ty "str"] H Q := rd_isi (.base (.str z)) (.ty _) (kit_ty (by decide +kernel)) q
end
/-- a fact of a decided number at a literal list -/
theorem same_new {H : Hp} {p : Addr} {o : HO} (h : H p = none) : Same H (upd H p o) := fun b x e => by
  rw [upd_ne (ne_of_none e h)]
  exact e
theorem same_to {H H1 : Hp} {p : Addr} {o : HO} (a : Same H H1) (h : H1 p = none) : Same H (upd H1 p o) := a.trans (same_new h)
/-- one that H does not track may be written -/
theorem same_put {H H1 : Hp} {p : Addr} {o : HO} (a : Same H H1) (h : H p = none) : Same H (upd H1 p o) := fun b x e => by
  rw [upd_ne (ne_of_none e h)]
  exact a b x e
end Eb
namespace Eb
open PySem PySem.Spec PyProof.Rows L2
section
variable {H : Hp} {Q : VK} {K : PySem.W.Frag} {a D : Addr} {d : Option Addr} {b : Bool} {c : V} {cv : Value}
theorem rd_isH (st : Stood H a D d) (C : HeldC K D) (kc : ClsV c cv) (e : PySem.W.kitOne K (.ref D) cv = some b) (q : Q (.bl b) H) : rIsH K [.ref a, c] H Q := ⟨a, D, d, c, cv, b, rfl, st, C, kc, e, q⟩
theorem rd_isHT {tp : Addr} {cs : List V} {us : List Value} (st : Stood H a D d) (C : HeldC K D) (hT : H tp = some (.tup cs)) (kc : Paired ClsV cs us) (e : PySem.W.kitAny K (.ref D) us = some b) (q : Q (.bl b) H) : rIsHT K [.ref a, .ref tp] H Q :=
  ⟨a, D, tp, d, cs, us, b, rfl, st, C, hT, kc, e, q⟩
theorem stood_new (h : H a = none) : Stood (upd H a (ExH a (.ref D) none)) a D none := ⟨upd_same, fun _ z => nomatch z⟩
theorem Stood.to {p : Addr} {o : HO} (h : H p = none) (t : Stood H a D d) : Stood (upd H p o) a D d :=
  ⟨same_new h _ _ t.1, fun dd e => let ⟨fs, q⟩ := t.2 dd e; ⟨fs, same_new h _ _ q⟩⟩
end
end Eb
/-! more readings -/
namespace Eb
open PySem PySem.Spec PyProof.Rows L2
section
variable {σ : L2.St} {H : Hp} {Q : VK} {D : Ends} {v w x y : V} {ta te : TE} {tr : TA} {i j : Int}
theorem rd_aug {n : Nat} {ti : TIp} (h : σ[n]? = some (some x)) (q : te σ H fun y H1 => ti x y H1 fun z H2 => D.nx (σ.set n (some z)) H2) : tAug n te ti D σ H := ⟨x, h, q⟩
theorem rd_ipI {f : Int → Int → Int} (q : Q (.int (f i j)) H) : ipI f (.int i) (.int j) H Q := ⟨i, j, rfl, rfl, q⟩
theorem rd_par {n m : Nat} (q : tr σ H fun vs H1 => ∃ v w, vs = [v, w] ∧ D.nx ((σ.set n (some v)).set m (some w)) H1) : tPar n m tr D σ H := q
theorem rd_two {B : V → V → Prop} (q : B v w) : ∃ v' w', [v, w] = [v', w'] ∧ B v' w' := ⟨v, w, rfl, q⟩
theorem rd_izip {K : PySem.W.Frag} {R : It → Hp → Prop} (q : tr σ H fun vs H1 => ∃ a b xs ys, vs = [.ref a, .ref b] ∧ SqL K H1 a xs ∧ SqL K H1 b ys ∧ R (Itz K a b) H1) : iZip K tr σ H R := q
theorem rd_clear {p : Addr} {xs : List V} (h : H p = some (.lst xs)) (q : Q .non (upd H p (.lst []))) : rClear (.ref p) [] H Q := ⟨p, xs, rfl, rfl, h, q⟩
theorem rd_rep {p : Addr} {xs : List V} {k : Int} (h : H p = some (.lst xs)) (h0 : 0 ≤ k) (h1 : k ≤ 1000) (hl : xs.length * k.toNat ≤ 1000) (q : ∀ n, H n = none → Q (.ref n) (upd H n (.lst (List.replicate k.toNat xs).flatten))) : rRep (.ref p) (.int k) H Q :=
  ⟨p, k, xs, rfl, rfl, h, by omega, by omega, Nat.le_of_lt (small1000 hl), q⟩
theorem rd_index {K : PySem.W.Frag} {p : Addr} {ns : List Int} {m : Int} (hs : SqL K H p (ns.map V.int)) (hm : m ∈ ns) (q : Q (.int (ns.idxOf m : Nat)) H) : rIndex K (.ref p) [.int m] H Q := by
  have hlt : ns.idxOf m < ns.length := List.idxOf_lt_length_iff.mpr hm
  refine ⟨p, ns.map V.int, .int m, ns.idxOf m, .int m, rfl, rfl, hs, rfl, ?_, ?_, ?_, ?_, q⟩
  · rw [List.all_map]
    exact List.all_eq_true.mpr fun _ _ => rfl
  · rw [List.getElem?_map, List.getElem?_eq_getElem hlt, List.getElem_idxOf]
    rfl
  · show (m == m) = true
    exact beq_self_eq_true m
  · intro k z hk hz
    rw [List.getElem?_map, List.getElem?_eq_getElem (by omega)] at hz
    cases hz
    show (_ == m) = false
    have := List.not_of_lt_findIdx (p := (· == m)) (xs := ns) (i := k) hk
    simpa using this
theorem tab_succ (g : Nat → Int) (i : Nat) : (((List.range (i + 1)).map g).map V.int) = ((List.range i).map g).map V.int ++ [V.int (g i)] := by
  rw [List.range_succ, List.map_append, List.map_append]
  rfl
theorem tab_len (g : Nat → Int) (i : Nat) : (((List.range i).map g).map V.int).length = i := by
  rw [List.length_map, List.length_map, List.length_range]
theorem int_at {ns : List Int} {k : Nat} {z : Int} (h : ns[k]? = some z) : (ns.map V.int)[k]? = some (V.int z) := by
  rw [List.getElem?_map, h]
  rfl
theorem cut_to {ns : List Int} {k : Nat} : cutV (ns.map V.int) none (some (k : Int)) = (ns.take k).map V.int := by
  unfold cutV
  rw [HT.sIx_none, HT.sIx_nat, List.drop_zero, Nat.sub_zero, List.map_take, List.length_map]
  by_cases c : k ≤ ns.length
  · rw [Nat.min_eq_left c]
  · rw [Nat.min_eq_right (by omega), List.take_of_length_le (by rw [List.length_map]; exact Nat.le_refl _), List.take_of_length_le (by rw [List.length_map]; omega)]
theorem cut_from {ns : List Int} {k : Nat} : cutV (ns.map V.int) (some (k : Int)) none = (ns.drop k).map V.int := by
  unfold cutV
  rw [HT.sIx_none, HT.sIx_nat, List.map_drop, List.length_map]
  by_cases c : k ≤ ns.length
  · rw [Nat.min_eq_left c, List.take_of_length_le (by rw [List.length_drop, List.length_map]; exact Nat.le_refl _)]
  · rw [Nat.min_eq_right (by omega), List.drop_of_length_le (by rw [List.length_map]; exact Nat.le_refl _), List.drop_of_length_le (by rw [List.length_map]; omega), List.take_nil]
theorem cut_mid {ns : List Int} {a b : Nat} (h : a ≤ b) (hb : b ≤ ns.length) : cutV (ns.map V.int) (some (a : Int)) (some (b : Int)) = ((ns.drop a).take (b - a)).map V.int := by
  unfold cutV
  rw [HT.sIx_nat, HT.sIx_nat, List.length_map, Nat.min_eq_left (show a ≤ ns.length by omega), Nat.min_eq_left hb, List.map_take, List.map_drop]
end
/- rules whose reading names K alone (for what stands in a comprehension) -/
section
variable {X : Cx} {K : PySem.W.Frag}
theorem ixK (h : X.K = K) : IxR X (rIxL K) := by subst h; exact ix_list
theorem ixTK (h : X.K = K) : IxR X (rIxT K) := by subst h; exact ix_tup
theorem slK (h : X.K = K) : SlR X (rSlL K) := by subst h; exact sl_list
theorem sumK (h : X.K = K) (hc : X.calm = true) : CallR X (.builtin "sum") (rSum K) := by subst h; exact cr_sum hc
theorem lenK (h : X.K = K) : CallR X (.builtin "len") (rLenL K) := by subst h; exact call_lenL
theorem bt_sum : bootBuiltins "sum" = some (.builtin "sum") := by decide +kernel
end
section
variable {X : Cx} {σ : L2.St} {H : Hp} {Q : VK} {tr : TA} {D : Ends} {v : V} {p : Addr} {R : It → Hp → Prop}
def rIsN : R2 := fun x y H Q => y = .non ∧ Q (.bl (decide (x = .non))) H
def rNotN : R2 := fun x y H Q => y = .non ∧ Q (.bl (!decide (x = .non))) H
theorem opIsN : OpR X (compareOp .Is) rIsN := op_isN
theorem opNotN : OpR X (compareOp .IsNot) rNotN := op_notN
theorem rd_isNN (q : Q (.bl true) H) : rIsN .non .non H Q := ⟨rfl, q⟩
theorem rd_isNR (q : Q (.bl false) H) : rIsN (.ref p) .non H Q := ⟨rfl, q⟩
theorem rd_notNN (q : Q (.bl false) H) : rNotN .non .non H Q := ⟨rfl, q⟩
theorem rd_notNR (q : Q (.bl true) H) : rNotN (.ref p) .non H Q := ⟨rfl, q⟩
theorem rd_rng2 (q : tr σ H fun vs H1 => ∃ i j : Int, vs = [.int i, .int j] ∧ (-(2 ^ 62) ≤ i ∧ i < 2 ^ 62 ∧ -(2 ^ 62) ≤ j ∧ j < 2 ^ 62) ∧ R (Itr i (j - i).toNat) H1) : iRng2 tr σ H R := q
theorem rd_it {K : PySem.W.Frag} {tl : TE} (q : tl σ H fun x H1 => ∃ a, x = .ref a ∧ (∃ xs, SqT K H1 a xs) ∧ R (Itt K a) H1) : iTup K tl σ H R := q
end
/-- a statement of a block by what holds behind it -/
theorem rd_cut {t u : TS} {D : Ends} {σ : L2.St} {H : Hp} (P : L2.St → Hp → Prop) (h1 : ∀ U : L2.St → Hp → Prop, (∀ σ' H', P σ' H' → U σ' H') → t { D with nx := U } σ H) (h2 : ∀ σ' H', P σ' H' → u D σ' H') : tSeq t u D σ H := h1 (u D) h2
theorem ix_ok {n : Nat} {i : Int} (h0 : 0 ≤ i) (h1 : i < n) : ixN n i = some i.toNat := by
  unfold ixN
  rw [if_pos h0, if_pos (by omega)]
theorem cut_any (ns : List Int) (lo hi : Option Int) : ∃ ms : List Int, cutV (ns.map V.int) lo hi = ms.map V.int ∧ (∀ x ∈ ms, x ∈ ns) ∧ ms.length ≤ ns.length := by
  refine ⟨(ns.drop (HT.sIx ns.length 0 lo)).take (HT.sIx ns.length ns.length hi - HT.sIx ns.length 0 lo), ?_, fun x hx => List.mem_of_mem_drop (List.mem_of_mem_take hx), ?_⟩
  · unfold cutV
    rw [List.length_map, List.map_take, List.map_drop]
  · rw [List.length_take, List.length_drop]
    omega
theorem cut_len_from {ns ms : List Int} {k : Nat} {hi : Int} (h : cutV (ns.map V.int) (some (k : Int)) (some hi) = ms.map V.int) (h0 : 0 ≤ hi) : ms.length ≤ hi.toNat - k := by
  have := congrArg List.length h
  obtain ⟨j, rfl⟩ : ∃ j : Nat, hi = j := ⟨_, (Int.toNat_of_nonneg h0).symm⟩
  unfold cutV at this
  rw [HT.sIx_nat, HT.sIx_nat, List.length_take, List.length_drop, List.length_map, List.length_map] at this
  rw [Int.toNat_natCast]
  omega
end Eb
namespace Eb
open PySem PySem.Spec PyProof.Rows L2
local macro_rules | `(tactic| walk_at "rd") => `(tactic| (first
  | with_reducible refine rd_seq ?_ | with_reducible refine rd_asg ?_ | with_reducible refine rd_op ?_ | ((with_reducible refine' rd_var ?hrd ?_); (case hrd => rfl)) | with_reducible refine rd_c ?_
  | with_reducible refine rd_I0 ?_ | ((with_reducible refine rd_I (C := CDiv) ?hrd ?_); (case hrd => exact ⟨by decide, by decide⟩)) | ((with_reducible refine rd_I (C := fun _ j => 0 < j) ?hrd ?_); (case hrd => (first | omega | decide | assumption)))
  | ((with_reducible refine rd_I (C := CPow) ?hrd ?_); (case hrd => exact ⟨by decide, by decide, by decide⟩))
  | ((with_reducible refine rd_I (C := CMul) ?hrd ?_); (case hrd => (first | exact .inl ⟨by decide, by decide⟩ | exact .inr ⟨by decide, by decide⟩ | (unfold CMul; omega))))
  | with_reducible refine rd_U ?_ | with_reducible refine rd_un ?_ | with_reducible refine rd_eqI ?_ | with_reducible refine rd_neI ?_ | with_reducible refine rd_cons ?_ | with_reducible refine rd_nil ?_ | with_reducible refine rd_cb ?_
  | with_reducible refine rd_call ?_ | with_reducible refine rd_callS ?_ | with_reducible refine rd_test ?_ | with_reducible refine rd_tb ?_ | with_reducible refine rd_bl ?_ | with_reducible refine rd_and ?_ | with_reducible refine rd_or ?_
  | with_reducible refine rd_not ?_ | with_reducible refine rd_andV ?_ | with_reducible refine rd_orV ?_ | with_reducible refine rd_notV ?_ | with_reducible refine rd_ifE ?_ | with_reducible refine rd_gn ?_ | with_reducible refine rd_ret ?_
  | with_reducible refine rd_ifS ?_ | with_reducible refine rd_drop ?_ | with_reducible refine rd_next ?_ | with_reducible refine rd_tup ?_ | with_reducible refine rd_lst ?_ | with_reducible refine rd_sl ?_ | with_reducible refine rd_no ?_
  | ((with_reducible refine' rd_len ?hrd ?_); (case hrd => assumption)) | ((with_reducible refine' rd_lenT ?hrd ?_); (case hrd => assumption)) | with_reducible refine rd_int ?_ | with_reducible refine rd_min ?_ | with_reducible refine rd_isiII ?_ | with_reducible refine rd_isiIB ?_ | with_reducible refine rd_isiBB ?_ | with_reducible refine rd_isiS ?_ | ((with_reducible refine' rd_isiL ?hrd ?_); (case hrd => assumption)) | ((with_reducible refine' rd_isiT ?hrd ?_); (case hrd => assumption))
  | with_reducible refine rd_for ?_ | with_reducible refine rd_lc ?_ | with_reducible refine rd_tyes ?_ | with_reducible refine rd_rng1 ?_ | with_reducible refine rd_gsub ?_ | with_reducible refine rd_lrg ?_ | with_reducible refine rd_rg1 ?_ | with_reducible refine rd_eqZ ?_ | with_reducible refine rd_neZ ?_ | with_reducible refine rd_chain ?_ | with_reducible refine rd_m1 ?_ | with_reducible refine rd_isZ ?_ | ((with_reducible refine' rd_gtup ?hrd ?hrn ?_); (case hrd => assumption); (case hrn => rfl)) | with_reducible refine rd_gcons ?_ | with_reducible refine rd_gnil ?_ | with_reducible refine rd_is ?_ | with_reducible refine rd_isx ?_
  | with_reducible refine rd_il ?_ | with_reducible refine rd_part ?_ | with_reducible refine rd_partI ?_ | with_reducible refine rd_bm ?_ | with_reducible refine rd_bm0 ?_ | with_reducible refine rd_eqB ?_ | with_reducible refine rd_neB ?_ | with_reducible refine rd_isB ?_ | with_reducible refine rd_niB ?_
  | with_reducible refine rd_nt ?_ | with_reducible refine rd_nf ?_ | with_reducible refine iteT ?_ | with_reducible refine iteF ?_
  | ((with_reducible refine' rd_aug ?hrd ?_); (case hrd => rfl)) | with_reducible refine rd_ipI ?_ | with_reducible refine rd_par ?_ | with_reducible refine rd_two ?_ | with_reducible refine rd_izip ?_
  | with_reducible refine rd_isNN ?_ | with_reducible refine rd_isNR ?_ | with_reducible refine rd_notNN ?_ | with_reducible refine rd_notNR ?_ | with_reducible refine rd_rng2 ?_))
def topS (i : Nat) : Stmt := PySem.Challenge.pw_evenbeat_k07_laid_is_even.main.body.getD i (.Pass ⟨0, 0, 0, 0⟩)
abbrev s_look_at_wheel : Stmt := topS 5
abbrev N_look_at_wheel : List Str := ["strokes", "places"]
theorem sc_look_at_wheel : FnScope N_look_at_wheel ["strokes", "places"] (defScope s_look_at_wheel) := ⟨rfl, rfl, rfl, by decide +kernel, rfl, by decide +kernel, by decide +kernel⟩
abbrev s_look_at_row : Stmt := topS 6
abbrev N_look_at_row : List Str := ["strokes", "places"]
theorem sc_look_at_row : FnScope N_look_at_row ["strokes", "places"] (defScope s_look_at_row) := ⟨rfl, rfl, rfl, by decide +kernel, rfl, by decide +kernel, by decide +kernel⟩
abbrev s_ahead : Stmt := topS 7
abbrev N_ahead : List Str := ["strokes", "places", "at"]
theorem sc_ahead : FnScope N_ahead ["strokes", "places", "at"] (defScope s_ahead) := ⟨rfl, rfl, rfl, by decide +kernel, rfl, by decide +kernel, by decide +kernel⟩
abbrev s_has_stroke : Stmt := topS 8
abbrev N_has_stroke : List Str := ["strokes", "places", "at"]
theorem sc_has_stroke : FnScope N_has_stroke ["strokes", "places", "at"] (defScope s_has_stroke) := ⟨rfl, rfl, rfl, by decide +kernel, rfl, by decide +kernel, by decide +kernel⟩
abbrev s_laid : Stmt := topS 9
abbrev N_laid : List Str := ["strokes", "places", "at"]
theorem sc_laid : FnScope N_laid ["strokes", "places"] (defScope s_laid) := ⟨rfl, rfl, rfl, by decide +kernel, rfl, by decide +kernel, by decide +kernel⟩
abbrev s_cell_at : Stmt := topS 11
abbrev N_cell_at : List Str := ["_law_script", "_law_k"]
theorem sc_cell_at : FnScope N_cell_at ["_law_script", "_law_k"] (defScope s_cell_at) := ⟨rfl, rfl, rfl, by decide +kernel, rfl, by decide +kernel, by decide +kernel⟩
abbrev s_is_row : Stmt := topS 12
abbrev N_is_row : List Str := ["_law_found", "_law_places", "_law_one"]
theorem sc_is_row : FnScope N_is_row ["_law_found", "_law_places"] (defScope s_is_row) := ⟨rfl, rfl, rfl, by decide +kernel, rfl, by decide +kernel, by decide +kernel⟩
abbrev s_heads : Stmt := topS 13
abbrev N_heads : List Str := ["_law_row", "_law_heads_here", "_law_one"]
theorem sc_heads : FnScope N_heads ["_law_row"] (defScope s_heads) := ⟨rfl, rfl, rfl, by decide +kernel, rfl, by decide +kernel, by decide +kernel⟩
abbrev s_widths : Stmt := topS 14
abbrev N_widths : List Str := ["_law_script", "_law_places", "_law_cell"]
theorem sc_widths : FnScope N_widths ["_law_script", "_law_places"] (defScope s_widths) := ⟨rfl, rfl, rfl, by decide +kernel, rfl, by decide +kernel, by decide +kernel⟩
abbrev s_law : Stmt := topS 15
abbrev N_law : List Str := ["_law_script", "_law_places", "_law_strokes", "_law_found", "_law_heads_here", "_law_width", "_law_low", "_law_high", "_law_at", "_law_many", "_law_held", "_law_other", "_law_again"]
theorem sc_law : FnScope N_law ["_law_script"] (defScope s_law) := ⟨rfl, rfl, rfl, by decide +kernel, rfl, by decide +kernel, by decide +kernel⟩
structure Txt (K : PySem.W.Frag) (mg : Str → Option Value) where
  f_look_at_wheel : Addr
  fd_look_at_wheel : FuncData
  F_look_at_wheel : Fun K "look_at_wheel" "look_at_wheel" s_look_at_wheel f_look_at_wheel fd_look_at_wheel
  k_look_at_wheel : PySem.W.keepIn K (.ref f_look_at_wheel) = true
  g_look_at_wheel : mg "look_at_wheel" = some (.ref f_look_at_wheel)
  b_look_at_wheel : Binds K fd_look_at_wheel ["strokes", "places"] []
  f_look_at_row : Addr
  fd_look_at_row : FuncData
  F_look_at_row : Fun K "look_at_row" "look_at_row" s_look_at_row f_look_at_row fd_look_at_row
  k_look_at_row : PySem.W.keepIn K (.ref f_look_at_row) = true
  g_look_at_row : mg "look_at_row" = some (.ref f_look_at_row)
  b_look_at_row : Binds K fd_look_at_row ["strokes", "places"] []
  f_ahead : Addr
  fd_ahead : FuncData
  F_ahead : Fun K "ahead" "ahead" s_ahead f_ahead fd_ahead
  k_ahead : PySem.W.keepIn K (.ref f_ahead) = true
  g_ahead : mg "ahead" = some (.ref f_ahead)
  b_ahead : Binds K fd_ahead ["strokes", "places", "at"] []
  f_has_stroke : Addr
  fd_has_stroke : FuncData
  F_has_stroke : Fun K "has_stroke" "has_stroke" s_has_stroke f_has_stroke fd_has_stroke
  k_has_stroke : PySem.W.keepIn K (.ref f_has_stroke) = true
  g_has_stroke : mg "has_stroke" = some (.ref f_has_stroke)
  b_has_stroke : Binds K fd_has_stroke ["strokes", "places", "at"] []
  f_laid : Addr
  fd_laid : FuncData
  F_laid : Fun K "laid" "laid" s_laid f_laid fd_laid
  k_laid : PySem.W.keepIn K (.ref f_laid) = true
  g_laid : mg "laid" = some (.ref f_laid)
  b_laid : Binds K fd_laid ["strokes", "places"] []
  f_cell_at : Addr
  fd_cell_at : FuncData
  F_cell_at : Fun K "_law_cell_at" "_law_cell_at" s_cell_at f_cell_at fd_cell_at
  k_cell_at : PySem.W.keepIn K (.ref f_cell_at) = true
  g_cell_at : mg "_law_cell_at" = some (.ref f_cell_at)
  b_cell_at : Binds K fd_cell_at ["_law_script", "_law_k"] []
  f_is_row : Addr
  fd_is_row : FuncData
  F_is_row : Fun K "_law_is_row" "_law_is_row" s_is_row f_is_row fd_is_row
  k_is_row : PySem.W.keepIn K (.ref f_is_row) = true
  g_is_row : mg "_law_is_row" = some (.ref f_is_row)
  b_is_row : Binds K fd_is_row ["_law_found", "_law_places"] []
  f_heads : Addr
  fd_heads : FuncData
  F_heads : Fun K "_law_heads" "_law_heads" s_heads f_heads fd_heads
  k_heads : PySem.W.keepIn K (.ref f_heads) = true
  g_heads : mg "_law_heads" = some (.ref f_heads)
  b_heads : Binds K fd_heads ["_law_row"] []
  f_widths : Addr
  fd_widths : FuncData
  F_widths : Fun K "_law_widths" "_law_widths" s_widths f_widths fd_widths
  k_widths : PySem.W.keepIn K (.ref f_widths) = true
  g_widths : mg "_law_widths" = some (.ref f_widths)
  b_widths : Binds K fd_widths ["_law_script", "_law_places"] []
  m_range : mg "range" = none
  m_int : mg "int" = none
  m_len : mg "len" = none
  m_isinstance : mg "isinstance" = none
  m_bool : mg "bool" = none
  m_list : mg "list" = none
  tok_LONGEST : Tok
  gv_LONGEST : mg "LONGEST" = some (.int 120 tok_LONGEST)
  c_NoWheel : Addr
  gc_NoWheel : mg "NoWheel" = some (.ref c_NoWheel)
  x_NoWheel : PySem.W.excIn K c_NoWheel [.type "ValueError", .type "Exception", .type "BaseException", .type "object"] "ValueError.__new__" = true
  kc_NoWheel : PySem.W.keepIn K (.ref c_NoWheel) = true
  sub_NoWheel : PySem.W.subIn K (.ref c_NoWheel) (.type "BaseException") = some true
  ty_NoWheel : PySem.W.typeIn K (.ref c_NoWheel) = some (.type "type")
theorem big {x : Int} (h : x.natAbs ≤ 4 * 10 ^ 60) : x.natAbs < 2 ^ 210 := Nat.lt_of_le_of_lt h (by decide)
theorem wider {x : Int} {n m : Nat} (h : x.natAbs < 2 ^ n) (l : n ≤ m) : x.natAbs < 2 ^ m := Nat.lt_of_lt_of_le h (Nat.pow_le_pow_right (by decide) l)
theorem div_small {x p : Int} {n : Nat} (h : x.natAbs < 2 ^ n) : (x / p).natAbs < 2 ^ n := Nat.lt_of_le_of_lt (Int.natAbs_ediv_le_natAbs x p) h
theorem one_more {x : Int} {n : Nat} (h : x.natAbs < 2 ^ n) : (x + 1).natAbs < 2 ^ (n + 1) := by
  have : 0 < 2 ^ n := Nat.two_pow_pos n
  rw [Nat.pow_succ]
  omega
theorem one_less {x : Int} {n : Nat} (h : x.natAbs < 2 ^ n) : (x - 1).natAbs < 2 ^ (n + 1) := by
  have : 0 < 2 ^ n := Nat.two_pow_pos n
  rw [Nat.pow_succ]
  omega
theorem add_small {x y : Int} {n : Nat} (h : x.natAbs < 2 ^ n) (k : y.natAbs < 2 ^ n) : (x + y).natAbs < 2 ^ (n + 1) := by
  have : 0 < 2 ^ n := Nat.two_pow_pos n
  rw [Nat.pow_succ]
  omega
/-! the sums of a wheel -/
theorem floor_le {x p n : Int} (hp : 0 < p) (h : x < (n + 1) * p) : x / p ≤ n := by
  have := (Int.ediv_lt_iff_lt_mul hp (a := x) (b := n + 1)).mpr h
  omega
theorem floor_ge {x p n : Int} (hp : 0 < p) (h : n * p ≤ x) : n ≤ x / p := (Int.le_ediv_iff_mul_le hp).mpr h
theorem floor_is {x p n : Int} (hp : 0 < p) (h : n * p ≤ x) (k : x < (n + 1) * p) : x / p = n := by
  have := floor_le hp k
  have := floor_ge hp h
  omega
theorem round_on {s a p : Int} (h : 1 ≤ p) : s * (a + p) / p = s * a / p + s := by
  rw [Int.mul_add, Int.add_mul_ediv_right _ _ (by omega)]
/-- the place of the stroke with the number n -/
theorem place_here {s p n : Int} (hs : 0 < s) (hsp : s ≤ p) :
    s * (((n + 1) * p - 1) / s) / p = n ∧ s * (((n + 1) * p - 1) / s + 1) / p = n + 1 := by
  have hp : 0 < p := by omega
  have e1 : (n + 1) * p = n * p + p := by rw [Int.add_mul, Int.one_mul]
  have e2 : (n + 1 + 1) * p = n * p + p + p := by rw [Int.add_mul, Int.add_mul, Int.one_mul]
  generalize hX : (n + 1) * p - 1 = X
  have l1 : s * (X / s) ≤ X := Int.mul_ediv_self_le (by omega)
  have l2 : X < s * (X / s) + s := Int.lt_mul_ediv_self_add hs
  have e3 : s * (X / s + 1) = s * (X / s) + s := by rw [Int.mul_add, Int.mul_one]
  refine ⟨floor_is hp ?_ ?_, floor_is hp ?_ ?_⟩
  · omega
  · omega
  · omega
  · omega
theorem floor_add {x y p : Int} (hp : 0 < p) : x / p + y / p ≤ (x + y) / p ∧ (x + y) / p ≤ x / p + y / p + 1 ∧ (y % p = 0 → (x + y) / p = x / p + y / p) := by
  have a1 := Int.mul_ediv_self_le (x := x) (k := p) (by omega)
  have a2 := Int.lt_mul_ediv_self_add (x := x) hp
  have b1 := Int.mul_ediv_self_le (x := y) (k := p) (by omega)
  have b2 := Int.lt_mul_ediv_self_add (x := y) hp
  have e : (x / p + y / p) * p = p * (x / p) + p * (y / p) := by rw [Int.add_mul, Int.mul_comm, Int.mul_comm (y / p)]
  have e1 : (x / p + y / p + 1) * p = p * (x / p) + p * (y / p) + p := by rw [Int.add_mul _ 1, e, Int.one_mul]
  have e2 : (x / p + y / p + 1 + 1) * p = p * (x / p) + p * (y / p) + p + p := by rw [Int.add_mul _ 1, e1, Int.one_mul]
  refine ⟨floor_ge hp ?_, floor_le hp ?_, fun z => floor_is hp ?_ ?_⟩
  · omega
  · omega
  · omega
  · have := Int.mul_ediv_add_emod y p
    omega
/-- one place on: no stroke more or one -/
theorem one_on {s p a : Int} (hp : 0 < p) (h0 : 0 ≤ s) (hs : s ≤ p) : s * a / p ≤ s * (a + 1) / p ∧ s * (a + 1) / p ≤ s * a / p + 1 := by
  have a1 := Int.mul_ediv_self_le (x := s * a) (k := p) (by omega)
  have a2 := Int.lt_mul_ediv_self_add (x := s * a) hp
  have e : s * (a + 1) = s * a + s := by rw [Int.mul_add, Int.mul_one]
  have e1 : s * a / p * p = p * (s * a / p) := Int.mul_comm _ _
  have e2 : (s * a / p + 1 + 1) * p = p * (s * a / p) + p + p := by rw [Int.add_mul, Int.add_mul, Int.one_mul, e1]
  exact ⟨floor_ge hp (by omega), floor_le hp (by omega)⟩
/-- the first and the last stroke of a stretch stand within it -/
theorem stretch_ends {s p a w : Int} (hp : 0 < p) (hs : 0 < s) (hm : s * a / p < s * (a + w) / p) :
    a ≤ ((s * a / p + 1) * p - 1) / s ∧ ((s * (a + w) / p - 1 + 1) * p - 1) / s < a + w ∧ ((s * a / p + 1) * p - 1) / s ≤ ((s * (a + w) / p - 1 + 1) * p - 1) / s := by
  have a2 := Int.lt_mul_ediv_self_add (x := s * a) hp
  have b1 := Int.mul_ediv_self_le (x := s * (a + w)) (k := p) (by omega)
  have e1 : (s * a / p + 1) * p = p * (s * a / p) + p := by rw [Int.add_mul, Int.one_mul, Int.mul_comm]
  have e2 : (s * (a + w) / p - 1 + 1) * p = p * (s * (a + w) / p) := by rw [Int.sub_add_cancel, Int.mul_comm]
  refine ⟨?_, ?_, ?_⟩
  · rw [Int.le_ediv_iff_mul_le hs, Int.mul_comm a s]
    omega
  · rw [Int.ediv_lt_iff_lt_mul hs, Int.mul_comm (a + w) s]
    omega
  · refine Int.ediv_le_ediv hs ?_
    have := Int.mul_le_mul_of_nonneg_right (show s * a / p + 1 ≤ s * (a + w) / p - 1 + 1 by omega) (show 0 ≤ p by omega)
    omega
/-! two lists of ints compared -/
theorem eqv_ints : ∀ (ns ms : List Int), PyData.eqvAll (ns.map PyData.int) (ms.map PyData.int) = decide (ns = ms)
  | [], [] => rfl
  | [], _ :: _ => rfl
  | _ :: _, [] => rfl
  | n :: ns, m :: ms => by
    have ih := eqv_ints ns ms
    show ((n == m) && PyData.eqvAll (ns.map PyData.int) (ms.map PyData.int)) = decide (n :: ns = m :: ms)
    rw [ih]
    by_cases h : n = m
    · by_cases k : ns = ms
      · subst h k
        simp
      · simp [h, k]
    · simp [h]
theorem can_ints : ∀ (ns : List Int), PyData.canLayAll0 (ns.map PyData.int) = true
  | [] => rfl
  | _ :: ns => can_ints ns
theorem deep_ints : ∀ (ns : List Int), PyData.depthAll (ns.map PyData.int) = 0
  | [] => rfl
  | _ :: ns => by
    show max 0 (PyData.depthAll (ns.map PyData.int)) = 0
    rw [deep_ints ns]
    rfl
theorem shaped_ints (ns : List Int) : SeqAt.shaped (.list (ns.map PyData.int)) = true := by
  unfold SeqAt.shaped
  rw [show PyData.canLay0 (.list (ns.map PyData.int)) = true from can_ints ns, show PyData.depth (.list (ns.map PyData.int)) = 1 from congrArg (· + 1) (deep_ints ns)]
  rfl
theorem dp_ints {K : PySem.W.Frag} {H : Hp} : ∀ (ns : List Int), DpAll K H (ns.map V.int) (ns.map PyData.int)
  | [] => .nil
  | n :: ns => .cons (.int n) (dp_ints ns)
theorem rd_eqL {K : PySem.W.Frag} {H : Hp} {Q : VK} {p r : Addr} {ns ms : List Int} (hx : SqL K H p (ns.map V.int)) (hy : SqL K H r (ms.map V.int)) (q : Q (.bl (decide (ns = ms))) H) : rEqD K (.ref p) (.ref r) H Q :=
  ⟨_, _, .lst hx (dp_ints ns), .lst hy (dp_ints ms), shaped_ints ns, shaped_ints ms, by
    rw [show PyData.eqv (.list (ns.map PyData.int)) (.list (ms.map PyData.int)) = decide (ns = ms) from eqv_ints ns ms]
    exact q⟩
/-! sums of the first ones -/
def pre (l : List Int) (k : Nat) : Int := (l.take k).sum
theorem pre_zero (l : List Int) : pre l 0 = 0 := rfl
theorem pre_succ {l : List Int} {k : Nat} {z : Int} (h : l[k]? = some z) : pre l (k + 1) = pre l k + z := sum_take h
theorem pre_all (l : List Int) : pre l l.length = l.sum := by
  unfold pre
  rw [List.take_of_length_le (Nat.le_refl _)]
def headsTo (l : List Int) (i : Nat) : List Int := (List.range (i + 1)).map (pre l)
theorem headsTo_zero (l : List Int) : headsTo l 0 = [0] := rfl
theorem headsTo_succ (l : List Int) (i : Nat) : headsTo l (i + 1) = headsTo l i ++ [pre l (i + 1)] := by
  unfold headsTo
  rw [List.range_succ, List.map_append]
  rfl
theorem headsTo_last (l : List Int) (i : Nat) : ∃ r, headsTo l i = r ++ [pre l i] := by
  unfold headsTo
  rw [List.range_succ, List.map_append]
  exact ⟨_, rfl⟩
theorem headsTo_len (l : List Int) (i : Nat) : (headsTo l i).length = i + 1 := by
  unfold headsTo
  rw [List.length_map, List.length_range]
theorem headsTo_at (l : List Int) {i k : Nat} (h : k ≤ i) : (headsTo l i)[k]? = some (pre l k) := by
  unfold headsTo
  rw [List.getElem?_map, List.getElem?_range (by omega)]
  rfl
/-- of twice a row: the i-th item -/
theorem twice_at {l : List Int} {k : Nat} (h : k < l.length + l.length) : (l ++ l)[k]? = l[k % l.length]? := by
  by_cases c : k < l.length
  · rw [List.getElem?_append_left c, Nat.mod_eq_of_lt c]
  · rw [List.getElem?_append_right (by omega), Nat.mod_eq_sub_mod (by omega), Nat.mod_eq_of_lt (by omega)]
section
variable {P : Program} {w : World} {K : PySem.W.Frag} {mg : Str → Option Value} {base : Heap}
/-! ### the program -/
def Wheel (s p : Int) : Prop := ¬ p < 1 ∧ ¬ s < 0 ∧ ¬ s > p
def sp_look (C : Addr) : Sp := fun vs H Q E => ∃ (s p : Int), vs = [.int s, .int p] ∧ (¬ Wheel s p → E (.ref C) none H) ∧ (Wheel s p → Q .non H)
theorem ok_look_at_wheel (T : Txt K mg) : FnOk P w K mg base (L2.CX P w) 1 T.f_look_at_wheel T.fd_look_at_wheel ["strokes", "places"] (sp_look T.c_NoWheel) := by
  refine T.F_look_at_wheel.okX sc_look_at_wheel (fun vs H Q E h => ?_) (fun cdv A outer s H vs Q E hr h => ?_)
  · obtain ⟨s, p, rfl, _⟩ := h
    rfl
  · obtain ⟨s, p, rfl, e, q⟩ := h
    refine ⟨_, (pss_one (ps_if (PW.pt (pw_or (pt_cmpR op_lt (pv 1) pe_int (nomark _)) (pw_or (pt_cmpR op_lt (pv 0) pe_int (nomark _)) (pw_or1 (pt_cmpR op_gt (pv 0) (pv 1) (nomark _))))))
      (pss_one (ps_raise rfl (takes_of rfl rfl rfl rfl) (pmk_own PySem.F.excBase_ValueError T.x_NoWheel T.gc_NoWheel T.kc_NoWheel (raises_own T.sub_NoWheel T.ty_NoWheel) rfl)))
      pss_nil)), ?_⟩
    repeat walk_at "rd"
    refine rd_split (fun c => ?_) fun c => ?_
    · exact e fun z => z.1 c
    repeat walk_at "rd"
    refine rd_split (fun c1 => ?_) fun c1 => ?_
    · exact e fun z => z.2.1 c1
    repeat walk_at "rd"
    refine rd_split (fun c2 => ?_) fun c2 => ?_
    · exact e fun z => z.2.2 c2
    exact q ⟨c, c1, c2⟩
def sp_ahead (C : Addr) : Sp := fun vs H Q E => ∃ (s p a : Int), vs = [.int s, .int p, .int a] ∧ (¬ Wheel s p → E (.ref C) none H) ∧ (Wheel s p → p.natAbs < 2 ^ 210 ∧ a.natAbs < 2 ^ 450 ∧ Q (.int (s * a / p)) H)
theorem ok_ahead (T : Txt K mg) : FnOk P w K mg base (L2.CX P w) 2 T.f_ahead T.fd_ahead ["strokes", "places", "at"] (sp_ahead T.c_NoWheel) := by
  refine T.F_ahead.okX sc_ahead (fun vs H Q E h => ?_) (fun cdv A outer s H vs Q E hr h => ?_)
  · obtain ⟨s, p, a, rfl, _⟩ := h
    rfl
  · obtain ⟨s, p, a, rfl, e, q⟩ := h
    refine ⟨_, (pss_cons (ps_expr (pe_callS (ok_look_at_wheel T) hr (by rfl) T.g_look_at_wheel T.k_look_at_wheel T.b_look_at_wheel (fun σ => passAt (takes_of rfl rfl rfl rfl) σ) (pa_cons (pv 0) (pa_cons (pv 1) pa_nil))))
    (pss_one (ps_ret (pe_op op_fdivW (pe_op op_mulW (pv 0) (pv 2)) (pv 1))))), ?_⟩
    repeat walk_at "rd"
    refine ⟨s, p, rfl, e, fun hw => ?_⟩
    obtain ⟨bp, ba, q⟩ := q hw
    repeat walk_at "rd"
    have bs : s.natAbs < 2 ^ 210 := wide_le (by have := hw.2.1; omega) (show s ≤ p by have := hw.2.2; omega) bp
    refine rd_I (wide_mul bs ba (by decide) (by decide) (by decide)) ?_
    repeat walk_at "rd"
    exact rd_I (wide_div (by have := hw.1; omega) bp (by decide) (by decide)) q
def sp_has (C : Addr) : Sp := fun vs H Q E => ∃ (s p a : Int), vs = [.int s, .int p, .int a] ∧ (¬ Wheel s p → E (.ref C) none H) ∧ (Wheel s p → p.natAbs < 2 ^ 210 ∧ a.natAbs < 2 ^ 440 ∧ Q (.bl (decide (s * a / p < s * (a + 1) / p))) H)
theorem ok_has_stroke (T : Txt K mg) : FnOk P w K mg base (L2.CX P w) 3 T.f_has_stroke T.fd_has_stroke ["strokes", "places", "at"] (sp_has T.c_NoWheel) := by
  refine T.F_has_stroke.okX sc_has_stroke (fun vs H Q E h => ?_) (fun cdv A outer s H vs Q E hr h => ?_)
  · obtain ⟨s, p, a, rfl, _⟩ := h
    rfl
  · obtain ⟨s, p, a, rfl, e, q⟩ := h
    refine ⟨_, (pss_one (ps_ret (pe_cmpR op_lt (pe_callS (ok_ahead T) hr (by rfl) T.g_ahead T.k_ahead T.b_ahead (fun σ => passAt (takes_of rfl rfl rfl rfl) σ) (pa_cons (pv 0) (pa_cons (pv 1) (pa_cons (pv 2) pa_nil)))) (pe_callS (ok_ahead T) hr (by rfl) T.g_ahead T.k_ahead T.b_ahead (fun σ => passAt (takes_of rfl rfl rfl rfl) σ) (pa_cons (pv 0) (pa_cons (pv 1) (pa_cons (pe_op op_add (pv 2) pe_int) pa_nil)))) (nomark _)))), ?_⟩
    repeat walk_at "rd"
    refine ⟨s, p, a, rfl, e, fun hw => ?_⟩
    obtain ⟨bp, ba, q⟩ := q hw
    have b1 : a.natAbs < 2 ^ 450 := Nat.lt_trans ba (Nat.pow_lt_pow_right (by decide) (by decide))
    have b2 : (a + 1).natAbs < 2 ^ 450 := Nat.lt_of_lt_of_le (one_more ba) (Nat.pow_le_pow_right (by decide) (by decide))
    refine ⟨bp, b1, ?_⟩
    repeat walk_at "rd"
    refine ⟨s, p, a + 1, rfl, e, fun _ => ⟨bp, b2, ?_⟩⟩
    repeat walk_at "rd"
    exact q
def sp_look_row (C : Addr) : Sp := fun vs H Q E => ∃ (s p : Int), vs = [.int s, .int p] ∧ (¬ (Wheel s p ∧ p ≤ 120) → E (.ref C) none H) ∧ (Wheel s p → p ≤ 120 → Q .non H)
theorem ok_look_at_row (T : Txt K mg) : FnOk P w K mg base (L2.CX P w) 2 T.f_look_at_row T.fd_look_at_row ["strokes", "places"] (sp_look_row T.c_NoWheel) := by
  refine T.F_look_at_row.okX sc_look_at_row (fun vs H Q E h => ?_) (fun cdv A outer s H vs Q E hr h => ?_)
  · obtain ⟨s, p, rfl, _⟩ := h
    rfl
  · obtain ⟨s, p, rfl, e, q⟩ := h
    refine ⟨_, (pss_cons (ps_expr (pe_callS (ok_look_at_wheel T) hr (by rfl) T.g_look_at_wheel T.k_look_at_wheel T.b_look_at_wheel (fun σ => passAt (takes_of rfl rfl rfl rfl) σ) (pa_cons (pv 0) (pa_cons (pv 1) pa_nil))))
    (pss_one (ps_if (pt_cmpR op_gt (pv 1) (pe_glob (v := .int 120) (by rfl) T.gv_LONGEST ⟨_, rfl⟩) (nomark _))
      (pss_one (ps_raise rfl (takes_of rfl rfl rfl rfl) (pmk_own PySem.F.excBase_ValueError T.x_NoWheel T.gc_NoWheel T.kc_NoWheel (raises_own T.sub_NoWheel T.ty_NoWheel) rfl)))
      pss_nil))), ?_⟩
    repeat walk_at "rd"
    refine ⟨s, p, rfl, fun z => e fun y => z y.1, fun hw => ?_⟩
    repeat walk_at "rd"
    refine rd_split (fun c => ?_) fun c => ?_
    · exact e fun z => by
        have := z.2
        omega
    · exact q hw (by omega)
/-! the laid row -/
def bitAt (s p : Int) (i : Nat) : Int := if s * i / p < s * (i + 1) / p then 1 else 0
def laidRow (s p : Int) : List Int := (List.range p.toNat).map (bitAt s p)
theorem laid_len (s p : Int) : (laidRow s p).length = p.toNat := by
  unfold laidRow
  rw [List.length_map, List.length_range]
theorem laid_at {s p : Int} {i : Nat} (h : i < p.toNat) : (laidRow s p)[i]? = some (bitAt s p i) := by
  unfold laidRow
  rw [List.getElem?_map, List.getElem?_range h]
  rfl
theorem bit_is {s p : Int} (hw : Wheel s p) (i : Nat) : bitAt s p i = s * (i + 1) / p - s * i / p := by
  obtain ⟨h1, h2⟩ := one_on (s := s) (p := p) (a := (i : Int)) (by have := hw.1; omega) (by have := hw.2.1; omega) (by have := hw.2.2; omega)
  unfold bitAt
  split <;> omega
theorem bit_01 (s p : Int) (i : Nat) : bitAt s p i = 0 ∨ bitAt s p i = 1 := by
  unfold bitAt
  split
  · exact .inr rfl
  · exact .inl rfl
def sp_laid (C : Addr) : Sp := fun vs H Q E => ∃ (s p : Int), vs = [.int s, .int p] ∧ (¬ (Wheel s p ∧ p ≤ 120) → E (.ref C) none H) ∧
  (Wheel s p → p ≤ 120 → ∀ H' r, Same H H' → H r = none → H' r = some (.lst ((laidRow s p).map V.int)) → Q (.ref r) H')
theorem ok_laid (T : Txt K mg) : FnOk P w K mg base (L2.CX P w) 4 T.f_laid T.fd_laid ["strokes", "places"] (sp_laid T.c_NoWheel) := by
  refine T.F_laid.okX sc_laid (fun vs H Q E h => ?_) (fun cdv A outer s H vs Q E hr h => ?_)
  · obtain ⟨s, p, rfl, _⟩ := h
    rfl
  · obtain ⟨s, p, rfl, e, q⟩ := h
    refine ⟨_, (pss_cons (ps_expr (pe_callS (ok_look_at_row T) (hr.mono (by decide)) (by rfl) T.g_look_at_row T.k_look_at_row T.b_look_at_row (fun σ => passAt (takes_of rfl rfl rfl rfl) σ) (pa_cons (pv 0) (pa_cons (pv 1) pa_nil))))
    (pss_one (ps_ret (pe_lc (own := [("at", 2)]) (g := gName 2) (tt := tYes) rfl sc_laid.nd (pi_range1 (by rfl) T.m_range (pa_cons (pv 1) pa_nil)) (blkOk_by (N := N_laid) (sc := defScope s_laid) (by decide +kernel)) (fun _ _ _ _ _ => pg_name (i := 2) sc_laid.nd rfl (Or.inl rfl)) (fun _ _ _ _ _ => pts_nil) (fun _ _ _ _ _ => (pe_callTy call_intB (by rfl) T.m_int (by decide +kernel) (pa_cons (pe_call (ok_has_stroke T) hr (by rfl) T.g_has_stroke T.k_has_stroke T.b_has_stroke .nil passL (pa_cons (pv 0) (pa_cons (pv 1) (pa_cons (pv 2) pa_nil)))) pa_nil))))))), ?_⟩
    repeat walk_at "rd"
    refine ⟨s, p, rfl, e, fun hw hp => ?_⟩
    have p1 : 1 ≤ p := by have := hw.1; omega
    repeat walk_at "rd"
    refine ⟨p, rfl, by omega, by omega, fun D nD => lc_range (lo := 0) (n := p.toNat) (fun i H' => Same H H' ∧ H' D = some (.lst (((laidRow s p).take i).map V.int))) ⟨same_new nD, upd_same⟩ ?_ ?_⟩
    · rintro i H' hi ⟨sm, eD⟩
      refine ⟨rfl, ?_⟩
      repeat walk_at "rd"
      refine ⟨s, p, _, rfl, fun z => absurd hw z, fun _ => ⟨wider (n := 7) (show p.natAbs < 128 by omega) (by decide), wider (n := 7) (show (0 + (i : Int)).natAbs < 128 by omega) (by decide), ?_⟩⟩
      repeat walk_at "rd"
      refine ⟨_, eD, small1000 (by rw [List.length_map, List.length_take, laid_len]; omega), same_put sm nD, ?_⟩
      rw [upd_same, List.take_add_one, laid_at hi, List.map_append]
      refine congrArg (fun z => some (HO.lst (_ ++ [V.int z]))) ?_
      unfold bitAt
      rw [Int.zero_add]
      by_cases c : s * (i : Int) / p < s * ((i : Int) + 1) / p
      · rw [decide_eq_true c, if_pos c]
        rfl
      · rw [decide_eq_false c, if_neg c]
        rfl
    · rintro H' ⟨sm, eD⟩
      refine q hw hp H' D sm nD ?_
      rw [eD, List.take_of_length_le (by rw [laid_len]; omega)]
/-- the sums of twice the laid row -/
theorem laid_pre {s p : Int} (hw : Wheel s p) : ∀ k : Nat, k ≤ p.toNat + p.toNat → pre (laidRow s p ++ laidRow s p) k = s * k / p
  | 0, _ => by
    rw [pre_zero, Int.natCast_zero, Int.mul_zero, Int.zero_ediv]
  | k + 1, h => by
    have p0 : 0 < p := by have := hw.1; omega
    have ih := laid_pre hw k (by omega)
    have hat : (laidRow s p ++ laidRow s p)[k]? = some (bitAt s p (k % p.toNat)) := by
      rw [twice_at (by rw [laid_len]; omega), laid_len, laid_at (Nat.mod_lt _ (by omega))]
    rw [pre_succ hat, ih, bit_is hw]
    have hp : (p.toNat : Int) = p := Int.toNat_of_nonneg (by omega)
    by_cases c : k < p.toNat
    · rw [Nat.mod_eq_of_lt c, Int.natCast_add]
      show s * (k : Int) / p + (s * ((k : Int) + 1) / p - s * (k : Int) / p) = s * ((k : Int) + 1) / p
      omega
    · have e : k % p.toNat = k - p.toNat := by rw [Nat.mod_eq_sub_mod (by omega), Nat.mod_eq_of_lt (by omega)]
      have e2 : ((k - p.toNat : Nat) : Int) = (k : Int) - p := by omega
      rw [e, e2, Int.natCast_add]
      have r1 := round_on (s := s) (a := (k : Int) - p) (p := p) (by omega)
      have r2 := round_on (s := s) (a := (k : Int) - p + 1) (p := p) (by omega)
      rw [show (k : Int) - p + p = k by omega] at r1
      rw [show (k : Int) - p + 1 + p = k + 1 by omega] at r2
      show s * (k : Int) / p + (s * ((k : Int) - p + 1) / p - s * ((k : Int) - p) / p) = s * ((k : Int) + 1) / p
      omega
/-- rounded up -/
theorem ceil_is {y p : Int} (hp : 0 < p) : (y % p = 0 → (y + p - 1) / p = y / p) ∧ (y % p ≠ 0 → (y + p - 1) / p = y / p + 1) := by
  have e := Int.mul_ediv_add_emod y p
  have h0 := Int.emod_nonneg y (show p ≠ 0 by omega)
  have h1 := Int.emod_lt_of_pos y hp
  have e1 : y / p * p = p * (y / p) := Int.mul_comm _ _
  have e2 : (y / p + 1) * p = p * (y / p) + p := by rw [Int.add_mul, Int.one_mul, e1]
  have e3 : (y / p + 1 + 1) * p = p * (y / p) + p + p := by rw [Int.add_mul, e2, Int.one_mul]
  exact ⟨fun z => floor_is hp (by omega) (by omega), fun z => floor_is hp (by omega) (by omega)⟩
/-- a stretch of sums has strokes times width over places, rounded down or up -/
theorem stretch_in {s p a w : Int} (hp : 0 < p) : s * w / p ≤ s * (a + w) / p - s * a / p ∧ s * (a + w) / p - s * a / p ≤ (s * w + p - 1) / p := by
  obtain ⟨f1, f2, f3⟩ := floor_add (x := s * a) (y := s * w) hp
  rw [← Int.mul_add] at f1 f2 f3
  obtain ⟨c1, c2⟩ := ceil_is (y := s * w) hp
  by_cases z : s * w % p = 0
  · have := c1 z
    have := f3 z
    omega
  · have := c2 z
    omega
def cell (ns : List Int) (k : Nat) : Int := ns.getD k 0
def sp_cell_at (K : PySem.W.Frag) : Sp := fun vs H Q _ => ∃ (a : Addr) (ns : List Int) (k : Nat), vs = [.ref a, .int k] ∧ SqL K H a (ns.map V.int) ∧ Q (.int (cell ns k)) H
theorem ok_cell_at (T : Txt K mg) : FnOk P w K mg base CX0 1 T.f_cell_at T.fd_cell_at ["_law_script", "_law_k"] (sp_cell_at K) := by
  refine T.F_cell_at.ok sc_cell_at (fun vs H Q E h => ?_) (fun cdv A outer s H vs Q E hr h => ?_)
  · obtain ⟨a, ns, k, rfl, _⟩ := h
    rfl
  · obtain ⟨a, ns, k, rfl, hS, q⟩ := h
    refine ⟨_, (pss_cons (ps_if (pt_cmpR op_lt (pv 1) (pe_callB call_lenL (by rfl) T.m_len PySem.boot_len (pa_cons (pv 0) pa_nil)) (nomark _))
      (pss_one (ps_ret (pe_ix ix_list (pv 0) (pv 1) (fun _ _ => rfl))))
      pss_nil)
    (pss_one (ps_ret pe_int))), ?_⟩
    repeat walk_at "rd"
    rw [List.length_map]
    refine rd_split (fun c => ?_) fun c => ?_
    · have hk : k < ns.length := by omega
      repeat walk_at "rd"
      refine rd_ixL hS (atI_nat (j := k) (by rw [List.getElem?_map, List.getElem?_eq_getElem hk]; rfl)) ?_
      have e : cell ns k = ns[k] := by
        unfold cell
        rw [List.getD_eq_getElem?_getD, List.getElem?_eq_getElem hk]
        rfl
      rw [e] at q
      exact q
    · have hk : ns.length ≤ k := by omega
      have e : cell ns k = 0 := by
        unfold cell
        rw [List.getD_eq_getElem?_getD, List.getElem?_eq_none hk]
        rfl
      rw [e] at q
      repeat walk_at "rd"
      exact q
theorem cut_int {ns : List Int} {lo hi : Option Int} {i : Nat} {y : V} (h : (cutV (ns.map V.int) lo hi)[i]? = some y) : ∃ z, y = V.int z := by
  have m := List.mem_of_getElem? h
  unfold cutV at m
  have m2 := List.mem_of_mem_drop (List.mem_of_mem_take m)
  obtain ⟨z, _, e⟩ := List.mem_map.mp m2
  exact ⟨z, e.symm⟩
theorem laid_01 {s p : Int} : ∀ x ∈ laidRow s p, x = 0 ∨ x = 1 := fun x hx => by
  obtain ⟨i, _, rfl⟩ := List.mem_map.mp hx
  exact bit_01 s p i
def sp_is_row : Sp := fun vs H Q _ => ∃ (r : Addr) (ns : List Int) (p : Int), vs = [.ref r, .int p] ∧ H r = some (.lst (ns.map V.int)) ∧ (ns.length : Int) = p ∧ (∀ x ∈ ns, x = 0 ∨ x = 1) ∧ ∀ H', Same H H' → Q (.bl true) H'
theorem ok_is_row (T : Txt K mg) : FnOk P w K mg base CX0 1 T.f_is_row T.fd_is_row ["_law_found", "_law_places"] sp_is_row := by
  refine T.F_is_row.ok sc_is_row (fun vs H Q E h => ?_) (fun cdv A outer s H vs Q E hr h => ?_)
  · obtain ⟨r, ns, p, rfl, _⟩ := h
    rfl
  · obtain ⟨r, ns, p, rfl, er, hl, h01, q⟩ := h
    refine ⟨_, (pss_cons (ps_if (PW.pt (pw_or (pt_not (pt_val (pe_callB call_isi (by rfl) T.m_isinstance (by decide +kernel) (pa_cons (pv 0) (pa_cons (pe_bltn (v := .ty "list") (by rfl) T.m_list (by decide +kernel) rfl) pa_nil))))) (pw_or1 (pt_cmpR op_ne (pe_callB call_lenL (by rfl) T.m_len PySem.boot_len (pa_cons (pv 0) pa_nil)) (pv 1) (nomark _)))))
      (pss_one (ps_ret pe_bl))
      pss_nil)
    (pss_cons (ps_for PassesOwn.never rfl (pi_list (pv 0)) (pg_name (i := 2) sc_is_row.nd rfl (Or.inl rfl))
      (pss_one (ps_if (PW.pt (pw_or (pt_not (pt_val (pe_callB call_isi (by rfl) T.m_isinstance (by decide +kernel) (pa_cons (pv 2) (pa_cons (pe_bltn (v := .ty "int") (by rfl) T.m_int (by decide +kernel) rfl) pa_nil))))) (pw_or (pt_val (pe_callB call_isi (by rfl) T.m_isinstance (by decide +kernel) (pa_cons (pv 2) (pa_cons (pe_bltn (v := .ty "bool") (by rfl) T.m_bool (by decide +kernel) rfl) pa_nil)))) (pw_or1 (pt_cmpR op_notIn_seq (pv 2) (pe_tup (pa_cons pe_int (pa_cons pe_int pa_nil))) (by rfl))))))
        (pss_one (ps_ret pe_bl))
        pss_nil)))
    (pss_one (ps_ret pe_bl)))), ?_⟩
    have hSr : SqL K H r (ns.map V.int) := SqL.of er
    repeat walk_at "rd"
    refine rd_splitN (fun c => absurd ?_ c) fun _ => ?_
    · rw [List.length_map, hl]
    repeat walk_at "rd"
    refine ⟨r, rfl, ⟨_, hSr⟩, for_list (xs := ns.map V.int) (fun i σ H' => (∃ x2, σ = [some (.ref r), some (.int p), x2]) ∧ Same H H') ⟨⟨_, rfl⟩, Same.refl H⟩ (fun i σ H' _ h' => h'.2.seq hSr) ?_ ?_⟩
    · rintro i y σ H' hi ⟨⟨x2, rfl⟩, sm⟩
      obtain ⟨z, hz, rfl⟩ : ∃ z, z ∈ ns ∧ y = V.int z := by
        obtain ⟨z, m, e⟩ := List.mem_map.mp (List.mem_of_getElem? hi)
        exact ⟨z, m, e.symm⟩
      have b := h01 z hz
      repeat walk_at "rd"
      refine ⟨by show 2 ≤ sizeLine; decide, fun t nt => ?_⟩
      repeat walk_at "rd"
      refine rd_ni upd_same rfl rfl ?_
      have inn : inV (.int z) [.int 0, .int 1] = true := by
        rcases b with b | b
        · rw [b]
          rfl
        · rw [b]
          rfl
      rw [inn]
      repeat walk_at "rd"
      exact ⟨⟨_, rfl⟩, same_to sm nt⟩
    · rintro σ H' ⟨⟨x2, rfl⟩, sm⟩
      repeat walk_at "rd"
      exact q H' sm
def sp_heads : Sp := fun vs H Q _ => ∃ (r : Addr) (ns : List Int), vs = [.ref r] ∧ H r = some (.lst (ns.map V.int)) ∧ ns.length ≤ 120 ∧ ∀ H' d, Same H H' → H d = none → H' d = some (.lst ((headsTo (ns ++ ns) (ns.length + ns.length)).map V.int)) → Q (.ref d) H'
theorem ok_heads (T : Txt K mg) : FnOk P w K mg base CX0 1 T.f_heads T.fd_heads ["_law_row"] sp_heads := by
  refine T.F_heads.ok sc_heads (fun vs H Q E h => ?_) (fun cdv A outer s H vs Q E hr h => ?_)
  · obtain ⟨r, ns, rfl, _⟩ := h
    rfl
  · obtain ⟨r, ns, rfl, er, hl, q⟩ := h
    refine ⟨_, (pss_cons (ps_set (i := 1) sc_heads.nd rfl (Or.inl rfl) (pe_lst (pa_cons pe_int pa_nil)))
    (pss_cons (ps_for PassesOwn.never rfl (pi_list (pe_op op_cat (pv 0) (pv 0))) (pg_name (i := 2) sc_heads.nd rfl (Or.inl rfl))
      (pss_one (ps_expr (pe_bm PySem.F.plainAttrs_list PySem.F.slot_list_append PySem.F.type_list_append mt_append (pv 1) (pa_cons (pe_op op_add (pe_ix ix_list (pv 1) (pe_un un_neg pe_int) (fun _ _ => rfl)) (pv 2)) pa_nil)))))
    (pss_one (ps_ret (pv 1))))), ?_⟩
    repeat walk_at "rd"
    refine ⟨by show 1 ≤ sizeLine; decide, fun d nd => ?_⟩
    repeat walk_at "rd"
    have er2 := same_new (o := .lst [.int 0]) nd _ _ er
    refine rd_cat er2 er2 (by rw [List.length_map]; omega) fun c nc => ?_
    have dc : d ≠ c := ne_of_none upd_same nc
    have ndH : H c = none := (same_new nd).free nc
    refine ⟨c, rfl, ⟨_, SqL.of upd_same⟩, for_list (xs := ns.map V.int ++ ns.map V.int) (fun i σ H' => (∃ x2, σ = [some (.ref r), some (.ref d), x2]) ∧ Same H H' ∧ H' c = some (.lst (ns.map V.int ++ ns.map V.int)) ∧ H' d = some (.lst ((headsTo (ns ++ ns) i).map V.int)))
      ⟨⟨_, rfl⟩, same_to (same_new nd) nc, upd_same, (upd_ne dc).trans upd_same⟩ (fun i σ H' _ h' => SqL.of h'.2.2.1) ?_ ?_⟩
    · rintro i y σ H' hi ⟨⟨x2, rfl⟩, sm, ec, ed⟩
      have li : i < (ns.map V.int ++ ns.map V.int).length := (List.getElem?_eq_some_iff.mp hi).1
      rw [List.length_append, List.length_map] at li
      rw [← List.map_append, List.getElem?_map] at hi
      cases g : (ns ++ ns)[i]? with
      | none =>
        rw [g] at hi
        cases hi
      | some z =>
        rw [g] at hi
        cases hi
        obtain ⟨rr, hrr⟩ := headsTo_last (ns ++ ns) i
        repeat walk_at "rd"
        refine rd_tyL ed ?_
        repeat walk_at "rd"
        refine rd_ixL (SqL.of ed) (v := .int (pre (ns ++ ns) i)) (by rw [hrr, List.map_append]; exact atI_last _ _) ?_
        repeat walk_at "rd"
        refine rd_app ed (by rw [List.length_map, headsTo_len]; omega) ?_
        repeat walk_at "rd"
        refine ⟨⟨_, rfl⟩, same_put sm nd, (upd_ne (Ne.symm dc)).trans ec, ?_⟩
        rw [upd_same, headsTo_succ, List.map_append, pre_succ g]
        rfl
    · rintro σ H' ⟨⟨x2, rfl⟩, sm, ec, ed⟩
      repeat walk_at "rd"
      rw [List.length_append, List.length_map] at ed
      exact q H' d sm nd ed
def sp_widths (K : PySem.W.Frag) : Sp := fun vs H Q _ => ∃ (a : Addr) (ns : List Int) (p : Int), vs = [.ref a, .int p] ∧ SqL K H a (ns.map V.int) ∧ ns.length ≤ 63 ∧ 1 ≤ p ∧ p ≤ 120 ∧
  ∀ H' r (ws : List Int), Same H H' → H' r = some (.lst (ws.map V.int)) → (∀ x ∈ ws, 0 ≤ x ∧ x ≤ p) → Q (.ref r) H'
theorem ok_widths (T : Txt K mg) : FnOk P w K mg base CX0 1 T.f_widths T.fd_widths ["_law_script", "_law_places"] (sp_widths K) := by
  refine T.F_widths.ok sc_widths (fun vs H Q E h => ?_) (fun cdv A outer s H vs Q E hr h => ?_)
  · obtain ⟨a, ns, p, rfl, _⟩ := h
    rfl
  · obtain ⟨a, ns, p, rfl, hS, hlen, h1, h2, q⟩ := h
    refine ⟨_, (pss_cons (ps_if (pt_cmpR op_le (pv 1) pe_int (nomark _))
      (pss_one (ps_ret (pe_listRg rfl (by rfl) T.m_list (prg_1 (by rfl) T.m_range (pe_op op_add (pv 1) pe_int)))))
      pss_nil)
    (pss_one (ps_ret (pe_op op_cat (pe_lst (pa_cons pe_int (pa_cons pe_int (pa_cons (pe_op op_fdiv (pv 1) pe_int) (pa_cons (pv 1) pa_nil))))) (pe_lc (own := [("_law_cell", 2)]) (g := gName 2) (tt := tYes) rfl sc_widths.nd (pi_list (pe_slice sl_list (pv 0) (po_some pe_int) (po_some pe_int))) (blkOk_by (N := N_widths) (sc := defScope s_widths) (by decide +kernel)) (fun _ _ _ _ _ => pg_name (i := 2) sc_widths.nd rfl (Or.inl rfl)) (fun _ _ _ _ _ => pts_nil) (fun _ _ _ _ _ => (pe_op op_mod (pv 2) (pe_op op_add (pv 1) pe_int)))))))), ?_⟩
    repeat walk_at "rd"
    refine rd_split (fun c => ?_) fun c => ?_
    · repeat walk_at "rd"
      refine ⟨RgOk.of_le (by decide) (by omega) (by decide) (by omega), fun r nr => ?_⟩
      refine q _ r _ (same_new nr) (upd_same.trans (congrArg (fun z => some (HO.lst z)) (rgV_ints (p + 1)))) fun x hx => ?_
      obtain ⟨k, hk, rfl⟩ := List.mem_map.mp hx
      have := List.mem_range.mp hk
      omega
    · repeat walk_at "rd"
      refine ⟨by show 4 ≤ sizeLine; decide, fun o no => ?_⟩
      have s1 := same_new (o := .lst [.int 0, .int 1, .int (p / 2), .int p]) no
      have hS1 := s1.seq hS
      have ho : upd H o (.lst [.int 0, .int 1, .int (p / 2), .int p]) o = some (.lst [.int 0, .int 1, .int (p / 2), .int p]) := upd_same
      generalize upd H o (.lst [.int 0, .int 1, .int (p / 2), .int p]) = H1 at s1 hS1 ho ⊢
      repeat walk_at "rd"
      refine rd_slL hS1 fun c nc => ?_
      generalize hcut : cutV (ns.map V.int) _ _ = cut
      have s2 := same_new (o := .lst cut) nc
      have lc : cut.length ≤ 63 := by
        rw [← hcut]
        exact Nat.le_trans (cutV_length _ _ _) (by rw [List.length_map]; exact hlen)
      have hc : upd H1 c (.lst cut) c = some (.lst cut) := upd_same
      generalize upd H1 c (.lst cut) = H2 at s2 hc ⊢
      refine ⟨c, rfl, ⟨_, SqL.of hc⟩, fun D nD => lc_list (xs := cut) (fun i H' => Same H2 H' ∧ ∃ acc : List Int, H' D = some (.lst (acc.map V.int)) ∧ acc.length = i ∧ ∀ x ∈ acc, 0 ≤ x ∧ x ≤ p)
        ⟨same_new nD, [], upd_same, rfl, fun _ z => nomatch z⟩ (fun i H' _ h' => SqL.of (h'.1 _ _ hc)) ?_ ?_⟩
      · rintro i y H' hi ⟨sm, acc, ea, la, ba⟩
        have li : i < cut.length := (List.getElem?_eq_some_iff.mp hi).1
        rw [← hcut] at hi
        obtain ⟨z, rfl⟩ := cut_int hi
        refine ⟨rfl, ?_⟩
        repeat walk_at "rd"
        refine ⟨acc.map V.int, ea, small1000 (by rw [List.length_map]; omega), same_put sm nD, acc ++ [z % (p + 1)], ?_, ?_, fun x hx => ?_⟩
        · rw [upd_same, List.map_append]
          rfl
        · rw [List.length_append, la]
          rfl
        · rcases List.mem_append.mp hx with m | m
          · exact ba x m
          · rw [List.mem_singleton.mp m]
            have := Int.emod_nonneg z (show p + 1 ≠ 0 by omega)
            have := Int.emod_lt_of_pos z (show 0 < p + 1 by omega)
            omega
      · rintro H' ⟨sm, acc, ea, la, ba⟩
        refine rd_cat (sm _ _ (s2 _ _ ho)) ea (by rw [List.length_map, la]; show 4 + _ ≤ 1000; omega) fun n nn => ?_
        refine q _ n ([0, 1, p / 2, p] ++ acc) (same_to (s1.trans (s2.trans sm)) nn) (by rw [upd_same, List.map_append]; rfl) fun x hx => ?_
        rcases List.mem_append.mp hx with m | m
        · simp only [List.mem_cons, List.not_mem_nil, or_false] at m
          omega
        · exact ba x m
/-! ### the law -/
def sp_law (K : PySem.W.Frag) : Sp := fun vs H Q _ => ∃ (a : Addr) (ns : List Int), vs = [.ref a] ∧ SqL K H a (ns.map V.int) ∧ ns.length ≤ 63 ∧ ∀ H', Q (.bl true) H'
theorem ok_law (T : Txt K mg) {fa : Addr} {fda : FuncData} (FL : Fun K "law" "law" s_law fa fda) : FnOk P w K mg base CX0 5 fa fda ["_law_script"] (sp_law K) := by
  refine FL.ok sc_law (fun vs H Q E h => ?_) (fun cdv A outer s H vs Q E hr h => ?_)
  · obtain ⟨a, ns, rfl, _⟩ := h
    rfl
  · obtain ⟨a, ns, rfl, hS, hlen, q⟩ := h
    refine ⟨_, (pss_cons (ps_set (i := 1) sc_law.nd rfl (Or.inl rfl) (pe_op op_add pe_int (pe_op op_mod (pe_call (ok_cell_at T) (hr.mono (by decide)) (by rfl) T.g_cell_at T.k_cell_at T.b_cell_at .nil pass0 (pa_cons (pv 0) (pa_cons pe_int pa_nil))) pe_int)))
    (pss_cons (ps_set (i := 2) sc_law.nd rfl (Or.inl rfl) (pe_op op_mod (pe_call (ok_cell_at T) (hr.mono (by decide)) (by rfl) T.g_cell_at T.k_cell_at T.b_cell_at .nil pass0 (pa_cons (pv 0) (pa_cons pe_int pa_nil))) (pe_op op_add (pv 1) pe_int)))
    (pss_cons (ps_set (i := 3) sc_law.nd rfl (Or.inl rfl) (pe_call (ok_laid T) hr (by rfl) T.g_laid T.k_laid T.b_laid .nil passL (pa_cons (pv 2) (pa_cons (pv 1) pa_nil))))
    (pss_cons (ps_if (pt_not (pt_val (pe_call (ok_is_row T) (hr.mono (by decide)) (by rfl) T.g_is_row T.k_is_row T.b_is_row .nil pass0 (pa_cons (pv 3) (pa_cons (pv 1) pa_nil)))))
      (pss_one (ps_ret pe_bl))
      pss_nil)
    (pss_cons (ps_set (i := 4) sc_law.nd rfl (Or.inl rfl) (pe_call (ok_heads T) (hr.mono (by decide)) (by rfl) T.g_heads T.k_heads T.b_heads .nil pass0 (pa_cons (pv 3) pa_nil)))
    (pss_cons (ps_for PassesOwn.never rfl (pi_list (pe_call (ok_widths T) (hr.mono (by decide)) (by rfl) T.g_widths T.k_widths T.b_widths .nil pass0 (pa_cons (pv 0) (pa_cons (pv 1) pa_nil)))) (pg_name (i := 5) sc_law.nd rfl (Or.inl rfl))
      (pss_cons (ps_set (i := 6) sc_law.nd rfl (Or.inl rfl) (pe_op op_fdiv (pe_op op_mul (pv 2) (pv 5)) (pv 1)))
      (pss_cons (ps_set (i := 7) sc_law.nd rfl (Or.inl rfl) (pe_op op_fdiv (pe_op op_sub (pe_op op_add (pe_op op_mul (pv 2) (pv 5)) (pv 1)) pe_int) (pv 1)))
      (pss_one (ps_for PassesOwn.never rfl (pi_range1 (by rfl) T.m_range (pa_cons (pv 1) pa_nil)) (pg_name (i := 8) sc_law.nd rfl (Or.inl rfl))
        (pss_cons (ps_set (i := 9) sc_law.nd rfl (Or.inl rfl) (pe_op op_sub (pe_ix ix_list (pv 4) (pe_op op_add (pv 8) (pv 5)) (fun _ _ => rfl)) (pe_ix ix_list (pv 4) (pv 8) (fun _ _ => rfl))))
        (pss_one (ps_if (PW.pt (pw_or (pt_cmpR op_lt (pv 9) (pv 6) (nomark _)) (pw_or1 (pt_cmpR op_gt (pv 9) (pv 7) (nomark _)))))
          (pss_one (ps_ret pe_bl))
          pss_nil))))))))
    (pss_cons (ps_set (i := 10) sc_law.nd rfl (Or.inl rfl) (pe_callTy call_lstL (by rfl) T.m_list (by decide +kernel) (pa_cons (pv 3) pa_nil)))
    (pss_cons (ps_expr (pe_bm PySem.F.plainAttrs_list PySem.F.slot_list_append PySem.F.type_list_append mt_append (pv 3) (pa_cons pe_int pa_nil)))
    (pss_cons (ps_asg (pe_op op_sub pe_int (pe_ix ix_list (pv 3) pe_int (fun _ _ => rfl))) (pg_sub (pv 3) pe_int set_list))
    (pss_cons (ps_set (i := 11) sc_law.nd rfl (Or.inl rfl) (pe_call (ok_laid T) hr (by rfl) T.g_laid T.k_laid T.b_laid .nil passL (pa_cons (pe_op op_sub (pv 1) (pv 2)) (pa_cons (pv 1) pa_nil))))
    (pss_cons (ps_set (i := 12) sc_law.nd rfl (Or.inl rfl) (pe_call (ok_laid T) hr (by rfl) T.g_laid T.k_laid T.b_laid .nil passL (pa_cons (pv 2) (pa_cons (pv 1) pa_nil))))
    (pss_one (ps_ret (pe_and (pe_call (ok_is_row T) (hr.mono (by decide)) (by rfl) T.g_is_row T.k_is_row T.b_is_row .nil pass0 (pa_cons (pv 11) (pa_cons (pv 1) pa_nil))) (pe_and (pe_call (ok_is_row T) (hr.mono (by decide)) (by rfl) T.g_is_row T.k_is_row T.b_is_row .nil pass0 (pa_cons (pv 12) (pa_cons (pv 1) pa_nil))) (pe_one (pe_cmpR (op_eqD hr.units) (pv 12) (pv 10) (nomark _)))))))))))))))))), ?_⟩
    repeat walk_at "rd"
    refine ⟨a, ns, 0, rfl, hS, ?_⟩
    repeat walk_at "rd"
    refine ⟨a, ns, 1, rfl, hS, ?_⟩
    have hp0 := Int.emod_nonneg (cell ns 0) (show (120 : Int) ≠ 0 by decide)
    have hp1 := Int.emod_lt_of_pos (cell ns 0) (show (0 : Int) < 120 by decide)
    have hp : 1 ≤ 1 + cell ns 0 % 120 ∧ 1 + cell ns 0 % 120 ≤ 120 := by omega
    generalize 1 + cell ns 0 % 120 = p at hp ⊢
    repeat walk_at "rd"
    have hs0 := Int.emod_nonneg (cell ns 1) (show p + 1 ≠ 0 by omega)
    have hs1 := Int.emod_lt_of_pos (cell ns 1) (show 0 < p + 1 by omega)
    generalize cell ns 1 % (p + 1) = s at hs0 hs1 ⊢
    have hw : Wheel s p := ⟨by omega, by omega, by omega⟩
    have hw2 : Wheel (p - s) p := ⟨by omega, by omega, by omega⟩
    have pn : ((laidRow s p).length : Int) = p := by rw [laid_len]; omega
    refine ⟨s, p, rfl, fun z => absurd ⟨hw, hp.2⟩ z, fun _ _ H1 r sm1 nr er => ?_⟩
    repeat walk_at "rd"
    refine ⟨r, laidRow s p, p, rfl, er, pn, laid_01, fun H2 sm2 => ?_⟩
    repeat walk_at "rd"
    refine ⟨r, laidRow s p, rfl, sm2 _ _ er, by omega, fun H3 d sm3 nd ed => ?_⟩
    have hS3 : SqL K H3 a (ns.map V.int) := (sm1.trans (sm2.trans sm3)).seq hS
    repeat walk_at "rd"
    refine ⟨a, ns, p, rfl, hS3, hlen, hp.1, hp.2, fun H4 w ws sm4 ew bw => ?_⟩
    have p0 : 0 < p := by omega
    have ed4 := sm4 _ _ ed
    refine ⟨w, rfl, ⟨_, SqL.of ew⟩, for_list (xs := ws.map V.int) (fun i σ H' => (∃ x5 x6 x7 x8 x9, σ = [some (.ref a), some (.int p), some (.int s), some (.ref r), some (.ref d), x5, x6, x7, x8, x9, none, none, none]) ∧ H4 = H')
      ⟨⟨_, _, _, _, _, rfl⟩, rfl⟩ (fun i σ H' _ h' => by rw [← h'.2]; exact SqL.of ew) ?_ ?_⟩
    · rintro i y σ H' hi ⟨⟨x5, x6, x7, x8, x9, rfl⟩, rfl⟩
      obtain ⟨z, hz, rfl⟩ : ∃ z, z ∈ ws ∧ y = V.int z := by
        obtain ⟨z, m, e⟩ := List.mem_map.mp (List.mem_of_getElem? hi)
        exact ⟨z, m, e.symm⟩
      have bz := bw z hz
      repeat walk_at "rd"
      refine rd_I (C := CDiv) ⟨by omega, by omega⟩ ?_
      repeat walk_at "rd"
      refine rd_I (C := CDiv) ⟨by omega, by omega⟩ ?_
      repeat walk_at "rd"
      refine ⟨p, rfl, by omega, by omega, for_range (lo := 0) (n := p.toNat) (fun k σ H' => (∃ x8 x9, σ = [some (.ref a), some (.int p), some (.int s), some (.ref r), some (.ref d), some (.int z), some (.int (s * z / p)), some (.int ((s * z + p - 1) / p)), x8, x9, none, none, none]) ∧ H4 = H')
        ⟨⟨_, _, rfl⟩, rfl⟩ ?_ ?_⟩
      · rintro k σ H' hk ⟨⟨x8, x9, rfl⟩, rfl⟩
        have h1 : k + z.toNat ≤ p.toNat + p.toNat := by omega
        have g1 : atI ((headsTo (laidRow s p ++ laidRow s p) ((laidRow s p).length + (laidRow s p).length)).map V.int) (0 + (k : Int) + z) = some (.int (s * ((k : Int) + z) / p)) := by
          refine at_of (j := k + z.toNat) (by omega) ?_
          rw [List.getElem?_map, headsTo_at _ (by rw [laid_len]; exact h1), laid_pre hw _ h1]
          show some (V.int (s * ((k + z.toNat : Nat) : Int) / p)) = _
          rw [show ((k + z.toNat : Nat) : Int) = (k : Int) + z by omega]
        have g2 : atI ((headsTo (laidRow s p ++ laidRow s p) ((laidRow s p).length + (laidRow s p).length)).map V.int) (0 + (k : Int)) = some (.int (s * (k : Int) / p)) := by
          refine at_of (j := k) (by omega) ?_
          rw [List.getElem?_map, headsTo_at _ (by rw [laid_len]; omega), laid_pre hw _ (by omega)]
          rfl
        obtain ⟨b1, b2⟩ := stretch_in (s := s) (p := p) (a := (k : Int)) (w := z) p0
        repeat walk_at "rd"
        refine rd_ixL (SqL.of ed4) g1 ?_
        repeat walk_at "rd"
        refine rd_ixL (SqL.of ed4) g2 ?_
        repeat walk_at "rd"
        refine rd_nay (by omega) ?_
        repeat walk_at "rd"
        refine rd_nay (by omega) ?_
        repeat walk_at "rd"
        exact ⟨⟨_, _, rfl⟩, rfl⟩
      · rintro σ H' ⟨⟨x8, x9, rfl⟩, rfl⟩
        exact ⟨⟨_, _, _, _, _, rfl⟩, rfl⟩
    · rintro σ H' ⟨⟨x5, x6, x7, x8, x9, rfl⟩, rfl⟩
      have er4 : H4 r = some (.lst ((laidRow s p).map V.int)) := sm4 _ _ (sm3 _ _ (sm2 _ _ er))
      repeat walk_at "rd"
      refine rd_lstOf (SqL.of er4) fun l nl => ?_
      have rl : r ≠ l := ne_of_none er4 nl
      have er5 := same_new (o := .lst ((laidRow s p).map V.int)) nl _ _ er4
      have el5 : upd H4 l (.lst ((laidRow s p).map V.int)) l = some (.lst ((laidRow s p).map V.int)) := upd_same
      generalize upd H4 l (.lst ((laidRow s p).map V.int)) = H5 at er5 el5 ⊢
      repeat walk_at "rd"
      refine rd_tyL er5 ?_
      repeat walk_at "rd"
      refine rd_app er5 (by rw [List.length_map]; omega) ?_
      have er6 : upd H5 r (.lst ((laidRow s p).map V.int ++ [.int 1])) r = some (.lst ((laidRow s p ++ [1]).map V.int)) := by
        rw [upd_same, List.map_append]
        rfl
      have el6 : upd H5 r (.lst ((laidRow s p).map V.int ++ [.int 1])) l = some (.lst ((laidRow s p).map V.int)) := (upd_ne (Ne.symm rl)).trans el5
      generalize upd H5 r (.lst ((laidRow s p).map V.int ++ [.int 1])) = H6 at er6 el6 ⊢
      obtain ⟨f0, fr, hfr⟩ : ∃ f0 fr, laidRow s p ++ [1] = f0 :: fr := by
        cases e : laidRow s p with
        | nil => exact ⟨1, [], rfl⟩
        | cons x y => exact ⟨x, y ++ [1], rfl⟩
      rw [hfr] at er6
      repeat walk_at "rd"
      refine rd_ixL (SqL.of er6) (v := .int f0) (atI_nat (j := 0) rfl) ?_
      repeat walk_at "rd"
      refine rd_set er6 (n := 0) (by rw [List.map_cons, List.length_cons]; unfold ixN; rw [if_pos (by decide), if_pos (by omega)]; rfl) ?_
      generalize ((f0 :: fr).map V.int).set 0 (.int (1 - f0)) = any6
      have el7 : upd H6 r (.lst any6) l = some (.lst ((laidRow s p).map V.int)) := (upd_ne (Ne.symm rl)).trans el6
      generalize upd H6 r (.lst any6) = H7 at el7 ⊢
      repeat walk_at "rd"
      refine ⟨p - s, p, rfl, fun z => absurd ⟨hw2, hp.2⟩ z, fun _ _ H8 r8 sm8 nr8 er8 => ?_⟩
      repeat walk_at "rd"
      refine ⟨s, p, rfl, fun z => absurd ⟨hw, hp.2⟩ z, fun _ _ H9 r9 sm9 nr9 er9 => ?_⟩
      repeat walk_at "rd"
      refine ⟨r8, laidRow (p - s) p, p, rfl, sm9 _ _ er8, by rw [laid_len]; omega, laid_01, fun H10 sm10 => ?_⟩
      repeat walk_at "rd"
      refine ⟨r9, laidRow s p, p, rfl, sm10 _ _ er9, pn, laid_01, fun H11 sm11 => ?_⟩
      repeat walk_at "rd"
      refine rd_eqL (SqL.of (sm11 _ _ (sm10 _ _ er9))) (SqL.of (sm11 _ _ (sm10 _ _ (sm9 _ _ (sm8 _ _ el7))))) ?_
      rw [decide_eq_true rfl]
      exact q H11
end
/-! ### what the top has written -/
theorem all_mk {l : PySem.W.OpenLaw} {w : World} {K : PySem.W.Frag} {h : Heap} {mg : Str → Option Value} {fa : Addr} (X : K.In h) (G : h.Ns mainGlobals mg) (hfa : mg "law" = some (.ref fa))
    {f1 : Addr} {od1 an1 : Option Addr} {sl1 : Array (Option Value)} {oc1 kV1 dc1 pm1 cd1 ct1 : Value}
    {f2 : Addr} {od2 an2 : Option Addr} {sl2 : Array (Option Value)} {oc2 kV2 dc2 pm2 cd2 ct2 : Value}
    {f3 : Addr} {od3 an3 : Option Addr} {sl3 : Array (Option Value)} {oc3 kV3 dc3 pm3 cd3 ct3 : Value}
    {f4 : Addr} {od4 an4 : Option Addr} {sl4 : Array (Option Value)} {oc4 kV4 dc4 pm4 cd4 ct4 : Value}
    {f5 : Addr} {od5 an5 : Option Addr} {sl5 : Array (Option Value)} {oc5 kV5 dc5 pm5 cd5 ct5 : Value}
    {f6 : Addr} {od6 an6 : Option Addr} {sl6 : Array (Option Value)} {oc6 kV6 dc6 pm6 cd6 ct6 : Value}
    {f7 : Addr} {od7 an7 : Option Addr} {sl7 : Array (Option Value)} {oc7 kV7 dc7 pm7 cd7 ct7 : Value}
    {f8 : Addr} {od8 an8 : Option Addr} {sl8 : Array (Option Value)} {oc8 kV8 dc8 pm8 cd8 ct8 : Value}
    {f9 : Addr} {od9 an9 : Option Addr} {sl9 : Array (Option Value)} {oc9 kV9 dc9 pm9 cd9 ct9 : Value}
    {f10 : Addr} {od10 an10 : Option Addr} {sl10 : Array (Option Value)} {oc10 kV10 dc10 pm10 cd10 ct10 : Value}
    {tk_LONGEST : Tok}
    {C_NoWheel : Addr}
    (a1 : PySem.W.nsIn K mainGlobals "look_at_wheel" = some (some (.ref f1)))
    (l1 : K.lookup f1 = some ⟨oc1, od1, .func (PySem.W.fnOf "look_at_wheel" "look_at_wheel" (defArgs s_look_at_wheel) (defBody s_look_at_wheel) (defScope s_look_at_wheel) .none kV1 dc1 pm1 an1 cd1 ct1), sl1⟩)
    (c1 : PySem.W.codeIn K cd1 "look_at_wheel" = true)
    (k1 : PySem.W.keepIn K (.ref f1) = true)
    (a2 : PySem.W.nsIn K mainGlobals "look_at_row" = some (some (.ref f2)))
    (l2 : K.lookup f2 = some ⟨oc2, od2, .func (PySem.W.fnOf "look_at_row" "look_at_row" (defArgs s_look_at_row) (defBody s_look_at_row) (defScope s_look_at_row) .none kV2 dc2 pm2 an2 cd2 ct2), sl2⟩)
    (c2 : PySem.W.codeIn K cd2 "look_at_row" = true)
    (k2 : PySem.W.keepIn K (.ref f2) = true)
    (a3 : PySem.W.nsIn K mainGlobals "ahead" = some (some (.ref f3)))
    (l3 : K.lookup f3 = some ⟨oc3, od3, .func (PySem.W.fnOf "ahead" "ahead" (defArgs s_ahead) (defBody s_ahead) (defScope s_ahead) .none kV3 dc3 pm3 an3 cd3 ct3), sl3⟩)
    (c3 : PySem.W.codeIn K cd3 "ahead" = true)
    (k3 : PySem.W.keepIn K (.ref f3) = true)
    (a4 : PySem.W.nsIn K mainGlobals "has_stroke" = some (some (.ref f4)))
    (l4 : K.lookup f4 = some ⟨oc4, od4, .func (PySem.W.fnOf "has_stroke" "has_stroke" (defArgs s_has_stroke) (defBody s_has_stroke) (defScope s_has_stroke) .none kV4 dc4 pm4 an4 cd4 ct4), sl4⟩)
    (c4 : PySem.W.codeIn K cd4 "has_stroke" = true)
    (k4 : PySem.W.keepIn K (.ref f4) = true)
    (a5 : PySem.W.nsIn K mainGlobals "laid" = some (some (.ref f5)))
    (l5 : K.lookup f5 = some ⟨oc5, od5, .func (PySem.W.fnOf "laid" "laid" (defArgs s_laid) (defBody s_laid) (defScope s_laid) .none kV5 dc5 pm5 an5 cd5 ct5), sl5⟩)
    (c5 : PySem.W.codeIn K cd5 "laid" = true)
    (k5 : PySem.W.keepIn K (.ref f5) = true)
    (a6 : PySem.W.nsIn K mainGlobals "_law_cell_at" = some (some (.ref f6)))
    (l6 : K.lookup f6 = some ⟨oc6, od6, .func (PySem.W.fnOf "_law_cell_at" "_law_cell_at" (defArgs s_cell_at) (defBody s_cell_at) (defScope s_cell_at) .none kV6 dc6 pm6 an6 cd6 ct6), sl6⟩)
    (c6 : PySem.W.codeIn K cd6 "_law_cell_at" = true)
    (k6 : PySem.W.keepIn K (.ref f6) = true)
    (a7 : PySem.W.nsIn K mainGlobals "_law_is_row" = some (some (.ref f7)))
    (l7 : K.lookup f7 = some ⟨oc7, od7, .func (PySem.W.fnOf "_law_is_row" "_law_is_row" (defArgs s_is_row) (defBody s_is_row) (defScope s_is_row) .none kV7 dc7 pm7 an7 cd7 ct7), sl7⟩)
    (c7 : PySem.W.codeIn K cd7 "_law_is_row" = true)
    (k7 : PySem.W.keepIn K (.ref f7) = true)
    (a8 : PySem.W.nsIn K mainGlobals "_law_heads" = some (some (.ref f8)))
    (l8 : K.lookup f8 = some ⟨oc8, od8, .func (PySem.W.fnOf "_law_heads" "_law_heads" (defArgs s_heads) (defBody s_heads) (defScope s_heads) .none kV8 dc8 pm8 an8 cd8 ct8), sl8⟩)
    (c8 : PySem.W.codeIn K cd8 "_law_heads" = true)
    (k8 : PySem.W.keepIn K (.ref f8) = true)
    (a9 : PySem.W.nsIn K mainGlobals "_law_widths" = some (some (.ref f9)))
    (l9 : K.lookup f9 = some ⟨oc9, od9, .func (PySem.W.fnOf "_law_widths" "_law_widths" (defArgs s_widths) (defBody s_widths) (defScope s_widths) .none kV9 dc9 pm9 an9 cd9 ct9), sl9⟩)
    (c9 : PySem.W.codeIn K cd9 "_law_widths" = true)
    (k9 : PySem.W.keepIn K (.ref f9) = true)
    (a10 : PySem.W.nsIn K mainGlobals "law" = some (some (.ref f10)))
    (l10 : K.lookup f10 = some ⟨oc10, od10, .func (PySem.W.fnOf "law" "law" (defArgs s_law) (defBody s_law) (defScope s_law) .none kV10 dc10 pm10 an10 cd10 ct10), sl10⟩)
    (c10 : PySem.W.codeIn K cd10 "law" = true)
    (k10 : PySem.W.keepIn K (.ref f10) = true)
    (z_range : PySem.W.nsIn K mainGlobals "range" = some none)
    (z_int : PySem.W.nsIn K mainGlobals "int" = some none)
    (z_len : PySem.W.nsIn K mainGlobals "len" = some none)
    (z_isinstance : PySem.W.nsIn K mainGlobals "isinstance" = some none)
    (z_bool : PySem.W.nsIn K mainGlobals "bool" = some none)
    (z_list : PySem.W.nsIn K mainGlobals "list" = some none)
    (v_LONGEST : PySem.W.nsIn K mainGlobals "LONGEST" = some (some (.int 120 tk_LONGEST)))
    (aC_NoWheel : PySem.W.nsIn K mainGlobals "NoWheel" = some (some (.ref C_NoWheel)))
    (iC_NoWheel : PySem.W.isClsIn K C_NoWheel = true)
    (tC_NoWheel : PySem.W.typeIn K (.ref C_NoWheel) = some (.type "type"))
    (bC_NoWheel : PySem.W.subIn K (.ref C_NoWheel) (.type "BaseException") = some true)
    (x_NoWheel : PySem.W.excIn K C_NoWheel [.type "ValueError", .type "Exception", .type "BaseException", .type "object"] "ValueError.__new__" = true)
    (kc_NoWheel : PySem.W.keepIn K (.ref C_NoWheel) = true)
    (sub_NoWheel : PySem.W.subIn K (.ref C_NoWheel) (.type "BaseException") = some true)
    (ty_NoWheel : PySem.W.typeIn K (.ref C_NoWheel) = some (.type "type"))
    : ∃ fd : FuncData, (∀ (s : Shared) (v : Value), BindsTo s fd ⟨[v], []⟩ [("_law_script", v)]) ∧ ∀ base : Heap, K.In base → base.Ns mainGlobals mg → FnOk l.prog w K mg base CX0 5 fa fd ["_law_script"] (sp_law K) := by
  have e := hfa.symm.trans (PySem.W.mg_of X G a10)
  cases e
  have F1 := fun_mk (st := s_look_at_wheel) l1 c1 k1
  have F2 := fun_mk (st := s_look_at_row) l2 c2 k2
  have F3 := fun_mk (st := s_ahead) l3 c3 k3
  have F4 := fun_mk (st := s_has_stroke) l4 c4 k4
  have F5 := fun_mk (st := s_laid) l5 c5 k5
  have F6 := fun_mk (st := s_cell_at) l6 c6 k6
  have F7 := fun_mk (st := s_is_row) l7 c7 k7
  have F8 := fun_mk (st := s_heads) l8 c8 k8
  have F9 := fun_mk (st := s_widths) l9 c9 k9
  have F10 := fun_mk (st := s_law) l10 c10 k10
  have T : Txt K mg := {
    f_look_at_wheel := f1, fd_look_at_wheel := _, F_look_at_wheel := F1, k_look_at_wheel := k1, g_look_at_wheel := PySem.W.mg_of X G a1, b_look_at_wheel := F1.binds (ps := ["strokes", "places"]) (fun _ _ _ _ _ _ us hl => match us, hl with | [_, _], _ => rfl),
    f_look_at_row := f2, fd_look_at_row := _, F_look_at_row := F2, k_look_at_row := k2, g_look_at_row := PySem.W.mg_of X G a2, b_look_at_row := F2.binds (ps := ["strokes", "places"]) (fun _ _ _ _ _ _ us hl => match us, hl with | [_, _], _ => rfl),
    f_ahead := f3, fd_ahead := _, F_ahead := F3, k_ahead := k3, g_ahead := PySem.W.mg_of X G a3, b_ahead := F3.binds (ps := ["strokes", "places", "at"]) (fun _ _ _ _ _ _ us hl => match us, hl with | [_, _, _], _ => rfl),
    f_has_stroke := f4, fd_has_stroke := _, F_has_stroke := F4, k_has_stroke := k4, g_has_stroke := PySem.W.mg_of X G a4, b_has_stroke := F4.binds (ps := ["strokes", "places", "at"]) (fun _ _ _ _ _ _ us hl => match us, hl with | [_, _, _], _ => rfl),
    f_laid := f5, fd_laid := _, F_laid := F5, k_laid := k5, g_laid := PySem.W.mg_of X G a5, b_laid := F5.binds (ps := ["strokes", "places"]) (fun _ _ _ _ _ _ us hl => match us, hl with | [_, _], _ => rfl),
    f_cell_at := f6, fd_cell_at := _, F_cell_at := F6, k_cell_at := k6, g_cell_at := PySem.W.mg_of X G a6, b_cell_at := F6.binds (ps := ["_law_script", "_law_k"]) (fun _ _ _ _ _ _ us hl => match us, hl with | [_, _], _ => rfl),
    f_is_row := f7, fd_is_row := _, F_is_row := F7, k_is_row := k7, g_is_row := PySem.W.mg_of X G a7, b_is_row := F7.binds (ps := ["_law_found", "_law_places"]) (fun _ _ _ _ _ _ us hl => match us, hl with | [_, _], _ => rfl),
    f_heads := f8, fd_heads := _, F_heads := F8, k_heads := k8, g_heads := PySem.W.mg_of X G a8, b_heads := F8.binds (ps := ["_law_row"]) (fun _ _ _ _ _ _ us hl => match us, hl with | [_], _ => rfl),
    f_widths := f9, fd_widths := _, F_widths := F9, k_widths := k9, g_widths := PySem.W.mg_of X G a9, b_widths := F9.binds (ps := ["_law_script", "_law_places"]) (fun _ _ _ _ _ _ us hl => match us, hl with | [_, _], _ => rfl),
    m_range := PySem.W.mg_none_of X G z_range,
    m_int := PySem.W.mg_none_of X G z_int,
    m_len := PySem.W.mg_none_of X G z_len,
    m_isinstance := PySem.W.mg_none_of X G z_isinstance,
    m_bool := PySem.W.mg_none_of X G z_bool,
    m_list := PySem.W.mg_none_of X G z_list,
    tok_LONGEST := tk_LONGEST, gv_LONGEST := PySem.W.mg_of X G v_LONGEST,
    c_NoWheel := C_NoWheel, gc_NoWheel := PySem.W.mg_of X G aC_NoWheel,
    x_NoWheel := x_NoWheel, kc_NoWheel := kc_NoWheel, sub_NoWheel := sub_NoWheel, ty_NoWheel := ty_NoWheel }
  have FT : Fun K "law" "law" s_law fa (PySem.W.fnOf "law" "law" (defArgs s_law) (defBody s_law) (defScope s_law) .none kV10 dc10 pm10 an10 cd10 ct10) := F10
  refine ⟨_, fun s v => ?_, fun base _ _ => ok_law T FT⟩
  exact .of_eq rfl
end Eb
open PySem PySem.W PyProof.Rows
set_option maxHeartbeats 0 in
theorem PySem.Challenge.cw_evenbeat_k07_laid_is_even_holds : PySem.Challenge.rw_evenbeat_k07_laid_is_even.Holds := by
  w_on; o_law; k_head; (case hw => w_witness2)
  k_fill
  refine L2.walk_of (l := PySem.Challenge.rw_evenbeat_k07_laid_is_even) (n := 63) (k := 5) (x := "_law_script") (CX := fun _ => L2.CX0) (sp := fun w => Eb.sp_law _) rfl (by decide) rfl ⟨rfl, by decide, by decide⟩ (fun w h Y => PySem.W.kIn_of Y) ?F (fun _ _ a ns hl _ hS => ⟨a, ns, rfl, hS, hl, fun _ => rfl⟩) (fun _ _ _ _ _ h => h)
  case F =>
    intro w mg fa h KX G hmg
    refine' Eb.all_mk KX G hmg ?a1 ?l1 ?c1 ?k1 ?a2 ?l2 ?c2 ?k2 ?a3 ?l3 ?c3 ?k3 ?a4 ?l4 ?c4 ?k4 ?a5 ?l5 ?c5 ?k5 ?a6 ?l6 ?c6 ?k6 ?a7 ?l7 ?c7 ?k7 ?a8 ?l8 ?c8 ?k8 ?a9 ?l9 ?c9 ?k9 ?a10 ?l10 ?c10 ?k10 ?z_range ?z_int ?z_len ?z_isinstance ?z_bool ?z_list ?v_LONGEST ?aC_NoWheel ?iC_NoWheel ?tC_NoWheel ?bC_NoWheel ?x_NoWheel ?kc_NoWheel ?sub_NoWheel ?ty_NoWheel
    (case a1 => k_is)
    (case l1 => k_is)
    (case c1 => k_is)
    (case k1 => k_is)
    (case a2 => k_is)
    (case l2 => k_is)
    (case c2 => k_is)
    (case k2 => k_is)
    (case a3 => k_is)
    (case l3 => k_is)
    (case c3 => k_is)
    (case k3 => k_is)
    (case a4 => k_is)
    (case l4 => k_is)
    (case c4 => k_is)
    (case k4 => k_is)
    (case a5 => k_is)
    (case l5 => k_is)
    (case c5 => k_is)
    (case k5 => k_is)
    (case a6 => k_is)
    (case l6 => k_is)
    (case c6 => k_is)
    (case k6 => k_is)
    (case a7 => k_is)
    (case l7 => k_is)
    (case c7 => k_is)
    (case k7 => k_is)
    (case a8 => k_is)
    (case l8 => k_is)
    (case c8 => k_is)
    (case k8 => k_is)
    (case a9 => k_is)
    (case l9 => k_is)
    (case c9 => k_is)
    (case k9 => k_is)
    (case a10 => k_is)
    (case l10 => k_is)
    (case c10 => k_is)
    (case k10 => k_is)
    (case z_range => k_is)
    (case z_int => k_is)
    (case z_len => k_is)
    (case z_isinstance => k_is)
    (case z_bool => k_is)
    (case z_list => k_is)
    (case v_LONGEST => k_is)
    (case aC_NoWheel => k_is)
    (case iC_NoWheel => k_is)
    (case tC_NoWheel => k_is)
    (case bC_NoWheel => k_is)
    (case x_NoWheel => k_exc)
    (case kc_NoWheel => k_is)
    (case sub_NoWheel => k_is)
    (case ty_NoWheel => k_is)
