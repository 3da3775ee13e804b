import PyProof.Rows.All
import Wide.All
import OpenK.AllK
import Wide.FinOn
import PyProof.EqAt
import PyProof.EqKinds
import PyProof.TupleCall
import KE.KExcIs
import KE.GoesNew
import KE.GoesEnum
import PySem.Challenge.RW_evenbeat_k06_grouped_by_hand
import HandS.ForMost
import HandS.Zip
import HandS.Rev
import HandS.RevTup
import HandS.Defaults
import HandS.ForExc
import HandS.IsInst
import HandS.ExcIs
import HandS.ExcField
import HandS.ExcInit
import HandS.ExcValue
import HandS.Wide
import HandS.Style
import HandS.Conv
set_option Elab.async false
set_option linter.all false
set_option maxRecDepth 100000
set_option maxHeartbeats 4000000
set_option exponentiation.threshold 1000
/- An exception that an except suite hands to a name, read behind the suite: try .. except X as e: v = e; isinstance of v; v.f -/
namespace Eb
open PySem PySem.Spec PyProof.Rows L2

def ExH (a : Addr) (cls : Value) (d : Option Addr) : HO := .ext fun h => ∃ (oe : Obj) (vs : Array Value), h.get? a = some oe ∧ Zc cls d oe ∧ oe.data = .fields vs

theorem exh_ok {P : Program} {w : World} {H : Hp} {h : Heap} {a : Addr} {cls : Value} {d : Option Addr} {oe : Obj} {vs : Array Value}
    (e : h.get? a = some oe) (z : Zc cls d oe) (f : oe.data = .fields vs) : ObjOk P w H h a (ExH a cls d) :=
  ⟨⟨oe, vs, e, z, f⟩, ⟨oe, e⟩, fun _ _ ⟨o, v, q, r⟩ k => ⟨o, v, k o q, r⟩⟩
theorem exh_at {P : Program} {w : World} {H : Hp} {h : Heap} {a : Addr} {cls : Value} {d : Option Addr} (hok : HOk P w H h) (e : H a = some (ExH a cls d)) :
    ∃ (oe : Obj) (vs : Array Value), h.get? a = some oe ∧ Zc cls d oe ∧ oe.data = .fields vs := by
  have t : ObjOk P w H h a (.ext fun h => ∃ (oe : Obj) (vs : Array Value), h.get? a = some oe ∧ Zc cls d oe ∧ oe.data = .fields vs) := hok a _ e
  exact t.1

section
variable {X : Cx} {pins : List (Addr × Obj)} {σ : L2.St} {H : Hp} {s : Shared} {a : Addr} {oe : Obj} {vs : Array Value} {cls : Value} {d : Option Addr}

/-- an untracked exception object of ours is tracked from here on -/
theorem hold_it (I : Inv X pins σ H s) (e : s.heap.get? a = some oe) (z : Zc cls d oe) (f : oe.data = .fields vs) (na : H a = none) (nL : a ≠ X.env.locals)
    (n0 : X.s_0.heap.get? a = none) (np : ∀ p ∈ X.pn ++ pins, p.1 ≠ a) : Inv X pins σ (upd H a (ExH a cls d)) s := by
  have was : ∀ {b : Addr} {o : Obj}, X.s_0.heap.get? b = some o → b ≠ a := fun {b o} q w => by
    rw [w, n0] at q
    cases q
  refine ⟨I.ok, I.os, I.bare,
    { keep := I.base.keep, slot := I.base.slot, there := I.base.there,
      free := fun b o q n hx => (upd_ne (was q)).trans (I.base.free b o q n hx),
      tups := fun b xs q => (upd_ne (ne_of_none (I.base.tups b xs q) na)).trans (I.base.tups b xs q),
      frzs := fun b o u q => (upd_ne (ne_of_none (I.base.frzs b o u q) na)).trans (I.base.frzs b o u q),
      tbls := fun b ps q => ?_ }, I.loc, I.cell, (upd_ne (Ne.symm nL)).trans I.free, fun x c q => ?_, fun p hp => ?_, fun b o q => ?_, I.len⟩
  · obtain ⟨more, r⟩ := I.base.tbls b ps q
    exact ⟨more, (upd_ne (ne_of_none r na)).trans r⟩
  · have ca : c ≠ a := fun w => by
      obtain ⟨v, o, ho, hd⟩ := I.cell x c q
      rw [w, e] at ho
      cases ho
      rw [f] at hd
      cases hd
    exact (upd_ne ca).trans (I.freeC x c q)
  · obtain ⟨h1, h2, h3⟩ := I.pin p hp
    exact ⟨h1, (upd_ne (np p hp)).trans h2, h3⟩
  · by_cases hb : b = a
    · rw [hb, upd_same] at q
      rw [hb]
      cases q
      exact exh_ok e z f
    · rw [upd_ne hb] at q
      exact (I.hok b o q).stay (fun _ _ _ r => r) (fun c r => (upd_ne (ne_of_none r na)).trans r) fun c xs r => (upd_ne (ne_of_none r na)).trans r
end

/-- what «except x as n: m = n» wishes of an exception of the body (it is caught; n in slot i, m in slot j) -/
def wHeld (K : PySem.W.Frag) (c : Value) (i j : Nat) (D : Ends) : WX := fun cls d σ H => PySem.W.exmOne K cls c = some true ∧
  ∀ a, H a = none → D.nx (((σ.set i (some (.ref a))).set j (some (.ref a))).set i none) (upd H a (ExH a cls d))

section
variable {X : Cx} {x n m : Str} {c : Value} {i j : Nat} {body : List Stmt} {p1 p2 p3 np pos pos' : Pos} {tb : WX → TS}
theorem ps_try_held (hs : X.stack = X.env :: X.outer) (hf : X.env.frame = some X.env.locals) (hex : X.ex = []) (hN : X.N.Nodup) (hi : X.N[i]? = some n) (hln : X.env.kindOf n = some .local)
    (hj : X.N[j]? = some m) (hlm : Loc X.env.scope m) (hfm : X.fn m = true ∨ X.env.scope.names.lookup m = some .local) (hc : Names X x c) (hdn : (n == ("__debug__" : Str)) = false) (hcn : (n == ("__classdict__" : Str)) = false)
    (hb : ∀ (W : WX) (pn : List (Addr × Obj)) (xe : Value → Shared → Prop), Takes (X.tr pn xe) W → PassesOwn (model X.prog X.w) X.A X.env xe → PSs (X.tr pn xe) body (tb W)) :
    PS X (.Try body [.ExceptHandler (some (.Name x np)) (some n) [.Assign [.Name m p1] (.Name n p2) p3] pos'] [] [] pos) (fun D σ H => tb (wHeld X.K c i j D) D σ H) := by
  constructor
  intro pins s σ H D I h
  have ok := I.ok
  have A1 : X.A.frames = some (X.env :: X.outer) := by rw [ok.frames, hs]
  refine wpAny_Try_except ?_
  have R := (hb (wHeld X.K c i j D) (X.pn ++ pins)
    (fun e s1 => wpAny (model X.prog X.w) X.A (noteFrame e X.env)
      (fun _ s2 => wpAny (model X.prog X.w) X.A (setFlight e none)
        (fun _ s3 => wpAny (model X.prog X.w) X.A (handleBy e X.env [.ExceptHandler (some (.Name x np)) (some n) [.Assign [.Name m p1] (.Name n p2) p3] pos']) (SP X pins D) X.xe s3)
        X.xe s2) X.xe s1)
    (fun u s' xx => ?_) PassesOwn.looking).run [] s σ H D (I.toTry _) h
  · refine wpAny_mono R (fun f s1 r => ?_) fun _ _ r => r
    cases f with
    | next =>
      obtain ⟨σ1, H1, J, q⟩ := r
      exact wpAny_execs_nil ⟨σ1, H1, J.ofTry ok, q⟩
    | ret u =>
      obtain ⟨v, σ1, H1, J, t, q⟩ := r
      exact ⟨v, σ1, H1, J.ofTry ok, t, q⟩
    | brk =>
      obtain ⟨σ1, H1, J, q⟩ := r
      exact ⟨σ1, H1, J.ofTry ok, q⟩
    | cont =>
      obtain ⟨σ1, H1, J, q⟩ := r
      exact ⟨σ1, H1, J.ofTry ok, q⟩
  -- what the body raised
  obtain ⟨a, B, sI, pn1, σ1, H1, cls, d, rfl, J1, nb, up, sky, na, os, ag, hit, go⟩ := xx
  have J : Inv X pins σ1 H1 sI := J1.ofTry ok
  have sky1 : Sky B (X.env :: X.outer) a (Zc cls d) X.env.locals s'.heap := hs ▸ sky
  show wpAny (model X.prog X.w) X.A (noteFrame (.ref a) X.env) _ _ _
  refine Sky.land Zc.steady A1 hf sky1 fun h3 fl up3 => ?_
  have J3 : Inv X pins σ1 H1 { s' with heap := h3 } := J.landed nb fl.1 (up.trans up3) os ag
  obtain ⟨o3, v3, e3, z3, d3⟩ := fl.there
  have off : a ∉ frs (X.env :: X.outer) := fun hm => by
    obtain ⟨_, o, e, hnf⟩ := fl.2.2.1.mem hm
    rw [e3] at e
    cases e
    exact hnf _ d3
  have nL : a ≠ X.env.locals := fun z => off (List.mem_filterMap.mpr ⟨X.env, List.mem_cons_self, by rw [hf, z]⟩)
  have nF : a ∉ X.fs := fun hm => by
    obtain ⟨e, he, q⟩ := List.mem_filterMap.mp hm
    exact off (List.mem_filterMap.mpr ⟨e, List.mem_cons_of_mem _ he, q⟩)
  have new : ∀ b o, sI.heap.get? b = some o → b ∉ frs X.stack → b ≠ a := fun b o q hb z => by
    have t := nb b o q hb
    rw [z, fl.2.1] at t
    cases t
  have offS : a ∉ frs X.stack := by rw [hs]; exact off
  have n0 : X.s_0.heap.get? a = none := by
    cases q : X.s_0.heap.get? a with
    | none => rfl
    | some o =>
      obtain ⟨o1, q1⟩ := J.base.there a o q (by rw [hex]; exact fun z => nomatch z)
      exact absurd rfl (new a o1 q1 offS)
  have nP : ∀ p ∈ X.pn ++ pins, p.1 ≠ a := fun p hp => by
    obtain ⟨q1, q2, q3, q4, _⟩ := J.pin p hp
    refine new p.1 p.2 q1 fun hm => ?_
    rw [hs] at hm
    obtain ⟨e, he, q⟩ := List.mem_filterMap.mp hm
    rcases List.mem_cons.mp he with w | w
    · rw [w, hf] at q
      exact q3 (Option.some.inj q).symm
    · exact q4 (List.mem_filterMap.mpr ⟨e, w, q⟩)
  have S3 := J3.suite e3 d3 na nL nF
  refine wpAny_handleBy_cons (codeAny_handlers_test ?_) (by intro q; cases q)
  have LT : PySem.W.Looks (model X.prog X.w) h3 (typeOf (.ref a)) cls := fun A Q E s k q => wpAny_typeOf_ref (k _ _ e3) (by rw [z3.1]; exact q)
  have LM := PySem.W.exm_one (M := model X.prog X.w) J3.kIn LT hit
  have read : ∀ {Q E : Value → Shared → Prop}, Q c { s' with heap := h3 } → wpAny (model X.prog X.w) (X.A.mark (some (.ref a))) (eval (.Name x np) X.env) Q E { s' with heap := h3 } := fun {Q E} q => by
    obtain ⟨g1, g2, g3⟩ := hc
    rcases g3 with g | ⟨g, g4, g5⟩
    · exact ld_glob (X := X.suite a ((a, o3) :: (X.pn ++ pins))) S3 g1 g q g2
    · exact ld_blt (X := X.suite a ((a, o3) :: (X.pn ++ pins))) S3 g1 g g4 q g5 g2
  refine read (LM.here (codeAny_handlers_suite_as ?_))
  refine HandSPX.lands_againZ fl fun h4 fl4 up4 => ?_
  have J4 : Inv X pins σ1 H1 { s' with heap := h4 } := J.landed nb fl4.1 ((up.trans up3).trans up4) os ag
  obtain ⟨o4, v4, e4, z4, d4⟩ := fl4.there
  have S4 := J4.suite e4 d4 na nL nF
  refine store_ok (X := X.suite a ((a, o4) :: (X.pn ++ pins))) (v := .ref a) S4 hN hi (.inl hln) rfl (fun s5 S5 => ?_) (.inr hln)
  have W : PSs (X.suite a ((a, o4) :: (X.pn ++ pins))) [.Assign [.Name m p1] (.Name n p2) p3] (tAsg (tVar i) (gName j)) :=
    pss_one (ps_set (X := X.suite a ((a, o4) :: (X.pn ++ pins))) (i := j) hN hj hlm (pe_var (X := X.suite a ((a, o4) :: (X.pn ++ pins))) hi (.inl hln) hdn hcn) (by rfl) hfm)
  have lt : i < σ1.length := by
    rw [J.len]
    exact (List.getElem?_eq_some_iff.mp hi).1
  refine wpAny_mono (W.run [] s5 _ H1 { nx := fun σ' H' => σ' = (σ1.set i (some (.ref a))).set j (some (.ref a)) ∧ H' = H1, rt := fun _ _ => False, bk := fun _ _ => False, ct := fun _ _ => False } S5 ⟨.ref a, List.getElem?_set_self lt, rfl, rfl⟩) (fun f s6 r => ?_) (fun _ _ z => z.elim)
  cases f with
  | next =>
    obtain ⟨σ6, H6, S6, rfl, rfl⟩ := r
    have pa := S6.pin (a, o4) (List.mem_append_left _ List.mem_cons_self)
    have J6 : Inv X pins _ H6 s6 := S6.unsuite ok
    have K6 : Inv X ((a, o4) :: pins) _ H6 s6 := J6.pins_of fun p hp => by
      rcases List.mem_cons.mp hp with w | w
      · rw [w]
        exact pa
      · exact J6.pin p (List.mem_append_right _ w)
    refine gone_ok K6 hN hi hln fun s7 J7 => ?_
    have p7 := J7.pin (a, o4) (List.mem_append_right _ List.mem_cons_self)
    have M7 : Inv X pins _ H6 s7 := J7.pins_of fun p hp => J7.pin p (List.mem_append_right _ (List.mem_cons_of_mem _ hp))
    exact ⟨_, _, hold_it M7 p7.1 z4 d4 p7.2.1 nL n0 nP, go a na⟩
  | ret u =>
    obtain ⟨_, _, _, _, _, q⟩ := r
    exact q.elim
  | brk =>
    obtain ⟨_, _, _, q⟩ := r
    exact q.elim
  | cont =>
    obtain ⟨_, _, _, q⟩ := r
    exact q.elim
end

/-! ### isinstance of such a held exception -/
/-- what the class D must say: as of one that a suite holds, and that it is a class of the text -/
structure HeldC (K : PySem.W.Frag) (D : Addr) : Prop extends ExcC K D where
  hc : (PySem.W.clsIn K D).isSome = true

/-- the held exception stands as an instance of its class -/
def Stood (H : Hp) (a D : Addr) (d : Option Addr) : Prop := H a = some (ExH a (.ref D) d) ∧ ∀ dd, d = some dd → ∃ fs, H dd = some (.xd fs)
theorem stood_inst {P : Program} {w : World} {H : Hp} {h : Heap} {a D : Addr} {d : Option Addr} (hok : HOk P w H h) (t : Stood H a D d) : ∃ ox od, PySem.W.InstAt h a ox D od := by
  obtain ⟨oe, vs, e, z, f⟩ := exh_at hok t.1
  cases d with
  | none => exact ⟨oe, none, e, z.1, by unfold PySem.W.notCls; rw [f] <;> rfl, by rw [z.2]; trivial⟩
  | some dd =>
    obtain ⟨fs, q⟩ := t.2 dd rfl
    have x : ObjOk P w H h dd (.xd fs) := hok dd _ q
    obtain ⟨mA, hns, _⟩ := x
    obtain ⟨o, _, _, ho, _⟩ := hns
    exact ⟨oe, some o, e, z.1, by unfold PySem.W.notCls; rw [f] <;> rfl, by rw [z.2]; exact ho⟩
section
variable {X : Cx}
def rIsH (K : PySem.W.Frag) : List V → Hp → VK → Prop := fun xs H Q => ∃ (a D : Addr) (d : Option Addr) (c : V) (cv : Value) (b : Bool), xs = [.ref a, c] ∧ Stood H a D d ∧ HeldC K D ∧ ClsV c cv ∧ PySem.W.kitOne K (.ref D) cv = some b ∧ Q (.bl b) H
def rIsHT (K : PySem.W.Frag) : List V → Hp → VK → Prop := fun xs H Q => ∃ (a D tp : Addr) (d : Option Addr) (cs : List V) (us : List Value) (b : Bool), xs = [.ref a, .ref tp] ∧ Stood H a D d ∧ HeldC K D ∧ H tp = some (.tup cs) ∧ Paired ClsV cs us ∧ PySem.W.kitAny K (.ref D) us = some b ∧ Q (.bl b) H
theorem held_kit {D a : Addr} {od : Option Obj} {ox : Obj} {K : PySem.W.Frag} (C : HeldC K D) : PySem.W.KitX K (.ref a) (.ref D) (fun h => PySem.W.InstAt h a ox D od) :=
  PySem.W.kitx_exc C.hc C.hg C.hk C.hs C.ha C.hn C.ht C.hm
theorem call_isH : CallR X (.builtin "isinstance") (rIsH X.K) := by
  intro pins s σ H xs us Q I r h
  obtain ⟨a, D, d, c, cv, b, rfl, st, C, kc, e, q⟩ := h
  obtain ⟨u1, u2, rfl, r1, r2⟩ := vals2 r
  cases (show u1 = Value.ref a from r1)
  have e2 := kc.eq r2
  subst e2
  obtain ⟨ox, od, J⟩ := stood_inst I.hok st
  exact PySem.W.kia_one (held_kit C) I.kIn J e (fun z => nomatch z) fun tk => ⟨.bl b, H, I.tok tk, rfl, q⟩
theorem call_isHT : CallR X (.builtin "isinstance") (rIsHT X.K) := by
  intro pins s σ H xs us Q I r h
  obtain ⟨a, D, tp, d, cs, ws, b, rfl, st, C, hT, kc, e, q⟩ := h
  obtain ⟨u1, u2, rfl, r1, r2⟩ := vals2 r
  cases (show u1 = Value.ref a from r1)
  cases (show u2 = Value.ref tp from r2)
  obtain ⟨ox, od, J⟩ := stood_inst I.hok st
  obtain ⟨_, its, rv, o, h1, h2, n, h3⟩ := (show ObjOk X.prog X.w H s.heap tp (.tup cs) from I.hok tp _ hT)
  have e3 := ClsV.all kc rv
  subst e3
  obtain ⟨oc, od', dt, sl⟩ := o
  simp only at h2 h3
  subst h2 h3
  exact PySem.W.kia_tup (held_kit C) I.kIn J h1 e (fun z => nomatch z) fun tk => ⟨.bl b, H, I.tok tk, rfl, q⟩
end
/-- v.f of a held exception whose own dict stands at dd -/
def tHeldF (K : PySem.W.Frag) (f : Str) (te : TE) : TE := fun σ H Q => te σ H fun x H1 => ∃ (a D dd : Addr) (fs : List (Str × V)) (v : V), x = .ref a ∧ H1 a = some (ExH a (.ref D) (some dd)) ∧ H1 dd = some (.xd fs) ∧ HeldC K D ∧ PySem.W.findIn K (.ref D) f = some none ∧ fs.lookup f = some v ∧ Q v H1
theorem pe_heldF {X : Cx} {e : Expr} {te : TE} {pos : Pos} {n : Str} (he : PE X e te) (hb : attributeBase e n X.env (eval e X.env) = eval e X.env := by rfl) : PE X (.Attribute e n pos) (tHeldF X.K n te) := by
  refine ⟨fun pins s σ H Q I h => ?_⟩
  refine attr_of hb (thn (he.run pins s σ H _ I h) fun u s1 hh => ?_)
  obtain ⟨x, H1, I1, rx, a, D, dd, fs, v, rfl, ea, ed, C, hno, l, q⟩ := hh
  obtain rfl : u = Value.ref a := rx
  obtain ⟨oe, vs, e4, z, hd⟩ := exh_at I1.hok ea
  have hx : ObjOk X.prog X.w H1 s1.heap dd (.xd fs) := I1.hok dd _ ed
  obtain ⟨mA, hns, hr⟩ := hx
  obtain ⟨od, ho, hl⟩ := lookIn_ns hns
  obtain ⟨u, hu, ru⟩ := RelO.some_of (v := v) (o := mA n) (by rw [← l]; exact hr n)
  have J : PySem.W.InstAt s1.heap a oe D (some od) := ⟨e4, z.1, by unfold PySem.W.notCls; rw [hd] <;> rfl, by rw [z.2]; exact ho⟩
  exact HandSPX.exc_get I1.kIn J C.hg C.hk C.hs (PySem.W.findObj_own C.hd hno rfl (by rw [hl, hu])) (handed_of ru) ⟨v, H1, I1.tok _, ru, q⟩
end Eb
namespace Eb
open PySem PySem.Spec PyProof.Rows L2
theorem kit_self {K : PySem.W.Frag} {D : Addr} : PySem.W.kitOne K (.ref D) (.ref D) = some true := by
  unfold PySem.W.kitOne
  rw [if_pos (by simp)]
theorem kit_cls {K : PySem.W.Frag} {D C : Addr} {b : Bool} (i : PySem.W.isClsIn K C = true) (t : PySem.W.typeIn K (.ref C) = some (.type "type")) (s : PySem.W.subIn K (.ref D) (.ref C) = some b) : PySem.W.kitCls K (.ref D) (.ref C) = some b := by
  have i2 : (PySem.W.clsIn K C).isSome = true := i
  unfold PySem.W.kitCls
  dsimp only
  rw [i2, t, if_pos (by rfl), s]
theorem kit_other {K : PySem.W.Frag} {D C : Addr} {b : Bool} (i : PySem.W.isClsIn K C = true) (t : PySem.W.typeIn K (.ref C) = some (.type "type")) (s : PySem.W.subIn K (.ref D) (.ref C) = some b) (n : (D == C) = false) : PySem.W.kitOne K (.ref D) (.ref C) = some b := by
  unfold PySem.W.kitOne
  have e : (Value.ref D == Value.ref C) = false := by
    have n' : D ≠ C := by simpa using n
    simpa using n'
  rw [e, if_neg Bool.false_ne_true]
  exact kit_cls i t s
theorem exm_other {K : PySem.W.Frag} {D C : Addr} {b : Bool} (x : PySem.W.subIn K (.ref C) (.type "BaseException") = some true) (i : PySem.W.isClsIn K C = true) (t : PySem.W.typeIn K (.ref C) = some (.type "type")) (s : PySem.W.subIn K (.ref D) (.ref C) = some b) :
    PySem.W.exmOne K (.ref D) (.ref C) = some b := by
  unfold PySem.W.exmOne
  rw [x, if_pos (by rfl)]
  exact kit_cls i t s
theorem kit_VE {K : PySem.W.Frag} {D : Addr} {b : Bool} (s : PySem.W.subIn K (.ref D) (.type "ValueError") = some b) : PySem.W.kitOne K (.ref D) (.type "ValueError") = some b := by
  unfold PySem.W.kitOne
  rw [if_neg (by simp)]
  show (if PySem.W.kitMeta "ValueError" = true then PySem.W.subIn K (.ref D) (.type "ValueError") else none) = some b
  rw [if_pos (by decide +kernel), s]
end Eb
/-! readings, one step a lemma; «walk_at "rd"» takes the steps that need no thought -/
namespace Eb
open PySem PySem.Spec PyProof.Rows L2
section
variable {σ : L2.St} {H : Hp} {Q : VK} {D : Ends} {v x y : V} {ta tb te : TE} {tr : TA} {t u : TS} {c c' : TT} {i j : Int} {k : Bool} {R : L2.St → Hp → Prop} {QT : Bool → Hp → Prop} {QA : List V → Hp → Prop}
theorem rd_var {n : Nat} (h : σ[n]? = some (some v)) (q : Q v H) : tVar n σ H Q := ⟨v, h, q⟩
theorem rd_c (q : Q v H) : tC v σ H Q := q
theorem rd_op {r : R2} (q : ta σ H fun x H1 => tb σ H1 fun y H2 => r x y H2 Q) : tOp r ta tb σ H Q := q
theorem rd_un {r : V → Hp → VK → Prop} (q : ta σ H fun x H1 => r x H1 Q) : tUn r ta σ H Q := q
theorem rd_I0 {g : Int → Int → V} (q : Q (g i j) H) : rI0 g (.int i) (.int j) H Q := ⟨i, j, rfl, rfl, q⟩
theorem rd_I {C : Int → Int → Prop} {g : Int → Int → V} (hc : C i j) (q : Q (g i j) H) : rI C g (.int i) (.int j) H Q := ⟨i, j, rfl, rfl, hc, q⟩
theorem rd_U {g : Int → V} (q : Q (g i) H) : rU g (.int i) H Q := ⟨i, rfl, q⟩
theorem rd_eqI (q : Q (.bl (decide (V.int i = V.int j))) H) : rEq (.int i) (.int j) H Q := ⟨rfl, q⟩
theorem rd_neI (q : Q (.bl (!decide (V.int i = V.int j))) H) : rNe (.int i) (.int j) H Q := ⟨rfl, q⟩
theorem rd_cons (q : ta σ H fun x H1 => tr σ H1 fun xs H2 => QA (x :: xs) H2) : tCons ta tr σ H QA := q
theorem rd_nil (q : QA [] H) : tNil σ H QA := q
theorem rd_cb {r : List V → Hp → VK → Prop} (q : tr σ H fun vs H1 => r vs H1 Q) : tCB r tr σ H Q := q
theorem rd_call {sp : Sp} {dvs : List V} {E : XK} (q : tr σ H fun vs H1 => sp (vs ++ dvs) H1 Q E) : tCall sp dvs E tr σ H Q := q
theorem rd_callS {sp : Sp} {E : L2.St → XK} (q : tr σ H fun vs H1 => sp vs H1 Q (E σ)) : tCallS sp E tr σ H Q := q
theorem rd_test (q : te σ H fun x H' => ∃ k, x = .bl k ∧ QT k H') : tTest te σ H QT := q
theorem rd_tb (q : te σ H fun x H' => ∃ k, x = .bl k ∧ QT k H') : tB te σ H QT := q
theorem rd_bl {q' : Bool → Prop} (q : q' k) : ∃ k', V.bl k = .bl k' ∧ q' k' := ⟨k, rfl, q⟩
theorem rd_and (q : c σ H fun b H1 => if b = true then c' σ H1 QT else QT false H1) : tAnd c c' σ H QT := q
theorem rd_or (q : c σ H fun b H1 => if b = true then QT true H1 else c' σ H1 QT) : tOr c c' σ H QT := q
theorem rd_not (q : c σ H fun b H1 => QT (!b) H1) : tNot c σ H QT := q
theorem rd_andV (q : ta σ H fun x H1 => ∃ b, x = .bl b ∧ if b = true then tb σ H1 Q else Q (.bl false) H1) : tAndV ta tb σ H Q := q
theorem rd_orV (q : ta σ H fun x H1 => ∃ b, x = .bl b ∧ if b = true then Q (.bl true) H1 else tb σ H1 Q) : tOrV ta tb σ H Q := q
theorem rd_notV (q : ta σ H fun x H1 => ∃ b, x = .bl b ∧ Q (.bl (!b)) H1) : tNotV ta σ H Q := q
theorem rd_ifE (q : c σ H fun b H1 => if b = true then ta σ H1 Q else tb σ H1 Q) : tIf c ta tb σ H Q := q
theorem rd_asg {g : TG} (q : te σ H fun x H1 => g x σ H1 D.nx) : tAsg te g D σ H := q
theorem rd_gn {n : Nat} (q : R (σ.set n (some v)) H) : gName n v σ H R := q
theorem rd_seq (q : t { D with nx := u D } σ H) : tSeq t u D σ H := q
theorem rd_ret (q : te σ H D.rt) : tRet te D σ H := q
theorem rd_ifS (q : c σ H fun b H1 => if b = true then t D σ H1 else u D σ H1) : tIfS c t u D σ H := q
theorem rd_drop (q : te σ H fun _ H1 => D.nx σ H1) : tDrop te D σ H := q
theorem rd_next (q : D.nx σ H) : tNext D σ H := q
theorem rd_tup (q : tr σ H fun xs H1 => xs.length ≤ sizeLine ∧ ∀ p, H1 p = none → Q (.ref p) (upd H1 p (.tup xs))) : tTup tr σ H Q := q
theorem rd_lst (q : tr σ H fun xs H1 => xs.length ≤ sizeLine ∧ ∀ p, H1 p = none → Q (.ref p) (upd H1 p (.lst xs))) : tLst tr σ H Q := q
theorem rd_ixL {K : PySem.W.Frag} {p : Addr} {xs : List V} (hs : SqL K H p xs) (hi : atI xs i = some v) (q : Q v H) : rIxL K (.ref p) (.int i) H Q := ⟨p, xs, i, v, rfl, rfl, hs, hi, q⟩
theorem rd_ixT {K : PySem.W.Frag} {p : Addr} {xs : List V} (hs : SqT K H p xs) (hi : atI xs i = some v) (q : Q v H) : rIxT K (.ref p) (.int i) H Q := ⟨p, xs, i, v, rfl, rfl, hs, hi, q⟩
theorem rd_sl {r : V → Option Int → Option Int → Hp → VK → Prop} {tl th : TO} (q : te σ H fun x H1 => tl σ H1 fun l H2 => th σ H2 fun u H3 => r x l u H3 Q) : tSl r te tl th σ H Q := q
theorem rd_no {QO : Option Int → Hp → Prop} (q : QO none H) : tNoPart σ H QO := q
theorem rd_slL {K : PySem.W.Frag} {p : Addr} {xs : List V} {lo hi : Option Int} (hs : SqL K H p xs) (q : ∀ n, H n = none → Q (.ref n) (upd H n (.lst (cutV xs lo hi)))) : rSlL K (.ref p) lo hi H Q := ⟨p, xs, rfl, hs, q⟩
theorem rd_for {wi : TI} {g : TG} {tb : TS} (q : wi σ H fun J H1 => ∃ W : Nat → Nat → L2.St → Hp → Prop, (∃ m, W 0 m σ H1) ∧ ∀ i m σ H, W i m σ H →
  (J.stop i H ∧ D.nx σ H) ∨ (J.go i H ∧ ∃ N : L2.St → Hp → Prop, (∀ σ' H', N σ' H' → ∃ m', m' < m ∧ W (i + 1) m' σ' H') ∧ ∀ x H', J.yld i H x H' → g x σ H' fun σ2 H2 => tb { D with nx := N, ct := N, bk := D.nx } σ2 H2)) : tFor wi g tb D σ H := q
theorem rd_lc {wi : TI} {g : TG} {tt : TT} {vs : List Nat} (q : wi σ H fun J H1 => ∀ D, H1 D = none → ∃ W : Nat → Nat → Hp → Prop, (∃ m, W 0 m (upd H1 D (.lst []))) ∧ ∀ i m H, W i m H →
  (J.stop i H ∧ Q (.ref D) H) ∨ (J.go i H ∧ ∃ Nx : Hp → Prop, (∀ H', Nx H' → ∃ m', m' < m ∧ W (i + 1) m' H') ∧ ∀ x H', J.yld i H x H' → g x (wipe σ vs) H' fun σ2 H2 => wipe σ2 vs = wipe σ vs ∧ tt σ2 H2 fun b H3 =>
    if b = true then te σ2 H3 fun y H4 => ∃ acc, H4 D = some (.lst acc) ∧ acc.length < sizeLine ∧ Nx (upd H4 D (.lst (acc ++ [y]))) else Nx H3)) : tLc wi g tt te vs σ H Q := q
theorem rd_tyes (q : QT true H) : tYes σ H QT := q
theorem rd_rng1 {R : It → Hp → Prop} (q : tr σ H fun vs H1 => ∃ j : Int, vs = [.int j] ∧ -(2 ^ 62) ≤ j ∧ j < 2 ^ 62 ∧ R (Itr 0 j.toNat) H1) : iRng1 tr σ H R := q
theorem rd_ni {K : PySem.W.Frag} {p : Addr} {xs : List V} (hT : H p = some (.tup xs)) (hx : flatV x = true) (hxs : xs.all flatV = true) (q : Q (.bl (!inV x xs)) H) : rIn K true x (.ref p) H Q := ⟨p, xs, rfl, .inr (SqT.of hT), hx, hxs, q⟩
theorem rd_set {p : Addr} {xs : List V} {n : Nat} {R' : Hp → Prop} (h : H p = some (.lst xs)) (hj : ixN xs.length i = some n) (q : R' (upd H p (.lst (xs.set n v)))) : rSetL (.ref p) (.int i) v H R' := ⟨p, xs, i, n, rfl, rfl, h, hj, q⟩
theorem rd_gsub {to ti : TE} {t : TSet} (q : to σ H fun o H1 => ti σ H1 fun i H2 => t o i v H2 fun H3 => R σ H3) : gSub to ti t v σ H R := q
theorem rd_lrg {te' : L2.St → Hp → (Int → Int → Hp → Prop) → Prop} (q : te' σ H fun a b H1 => RgOk a b ∧ ∀ q, H1 q = none → Q (.ref q) (upd H1 q (.lst (rgV a b)))) : tLstRg te' σ H Q := q
theorem rd_rg1 {QR : Int → Int → Hp → Prop} (q : te σ H fun x H1 => ∃ n, x = .int n ∧ QR 0 n H1) : tRg1 te σ H QR := q
theorem rgV_ints (n : Int) : rgV 0 n = ((List.range n.toNat).map fun k => ((k : Nat) : Int)).map V.int := by
  unfold rgV
  rw [List.map_map, Int.sub_zero]
  refine List.map_congr_left fun k _ => ?_
  show V.int (0 + (k : Int)) = V.int (k : Int)
  rw [Int.zero_add]
def rAddZ : R2 := fun x y H Q => ∃ i j, x = .str i ∧ y = .str j ∧ i.length + j.length ≤ sizeLine ∧ Q (.str (i ++ j)) H
theorem op_addZ {X : Cx} : OpR X (binaryOp .Add) rAddZ := op_add_str
theorem rd_addZ {a b : Str} (h : a.length + b.length ≤ 1000) (q : Q (.str (a ++ b)) H) : rAddZ (.str a) (.str b) H Q := ⟨a, b, rfl, rfl, Nat.le_of_lt (small1000 h), q⟩
theorem rd_slS {z : Str} {lo hi : Option Int} (h : z.length ≤ 1000) (q : Q (.str (cutS z lo hi)) H) : rSlS (.str z) lo hi H Q := ⟨z, rfl, Nat.le_of_lt (small1000 h), q⟩
theorem rd_ixZ {z : Str} {c : Nat} (h : z.length ≤ 1000) (hi : atI z.cps.toList i = some c) (q : Q (.str ⟨#[c]⟩) H) : rIxS (.str z) (.int i) H Q := ⟨z, i, c, rfl, rfl, Nat.le_of_lt (small1000 h), hi, q⟩
theorem rd_eqZ {a b : Str} (q : Q (.bl (decide (V.str a = V.str b))) H) : rEq (.str a) (.str b) H Q := ⟨rfl, q⟩
theorem rd_neZ {a b : Str} (q : Q (.bl (!decide (V.str a = V.str b))) H) : rNe (.str a) (.str b) H Q := ⟨rfl, q⟩
theorem rd_chain {r r' : R2} {tc : TE} (q : ta σ H fun x H1 => tb σ H1 fun y H2 => r x y H2 fun z H3 => ∃ k, z = .bl k ∧ (if k = true then tc σ H3 fun w' H4 => r' y w' H4 Q else Q (.bl false) H3)) : tChain r r' ta tb tc σ H Q := q
theorem rd_m1 {r : V → List V → Hp → VK → Prop} (q : ta σ H fun x H1 => (∃ a, x = .str a) ∧ te σ H1 fun y H2 => r x [y] H2 Q) : tM1 r ta te σ H Q := q
theorem rd_isZ {a : Str} {B : Prop} (q : B) : (∃ a', V.str a = .str a') ∧ B := ⟨⟨a, rfl⟩, q⟩
theorem rd_gtup {K : PySem.W.Frag} {tg : TGs} {n : Nat} {p : Addr} {xs : List V} (hT : H p = some (.tup xs)) (hn : xs.length = n) (q : tg xs σ H R) : gTup K n tg (.ref p) σ H R := ⟨p, xs, rfl, SqT.of hT, hn, q⟩
theorem rd_gcons {tg : TG} {tgs : TGs} {r : List V} (q : tg v σ H fun σ' H' => tgs r σ' H' R) : gCons tg tgs (v :: r) σ H R := ⟨v, r, rfl, q⟩
theorem rd_gnil (q : R σ H) : gNil [] σ H R := ⟨rfl, q⟩
theorem rd_is {tl : TE} {RI : It → Hp → Prop} (q : tl σ H fun v H1 => ∃ x, v = .str x ∧ RI (Its x) H1) : iStr tl σ H RI := q
theorem rd_isx {x : Str} {B : Str → Prop} (q : B x) : ∃ x', V.str x = .str x' ∧ B x' := ⟨x, rfl, q⟩
theorem rd_il {K : PySem.W.Frag} {tl : TE} {R : It → Hp → Prop} (q : tl σ H fun x H1 => ∃ a, x = .ref a ∧ (∃ xs, SqL K H1 a xs) ∧ R (Itl K a) H1) : iList K tl σ H R := q
theorem rd_part {QO : Option Int → Hp → Prop} (q : te σ H fun x H1 => ∃ i, x = .int i ∧ QO (some i) H1) : tPart te σ H QO := q
theorem rd_partI {QI : Int → Prop} (q : QI i) : ∃ i', V.int i = .int i' ∧ QI i' := ⟨i, rfl, q⟩
theorem rd_bm {K : PySem.W.Frag} {T : String} {r : V → List V → Hp → VK → Prop} (q : te σ H fun x H1 => tyV K T x H1 ∧ tr σ H1 fun xs H2 => r x xs H2 Q) : tBM K T r te tr σ H Q := q
theorem rd_bm0 {K : PySem.W.Frag} {T : String} {r : V → List V → Hp → VK → Prop} (q : te σ H fun x H1 => tyV K T x H1 ∧ r x [] H1 Q) : tBM0 K T r te σ H Q := q
theorem rd_tyL {K : PySem.W.Frag} {p : Addr} {xs : List V} {B : Prop} (hs : H p = some (.lst xs)) (q : B) : tyV K "list" (.ref p) H ∧ B := ⟨.inl ⟨rfl, _, SqL.of hs⟩, q⟩
theorem rd_app {p : Addr} {xs : List V} (hs : H p = some (.lst xs)) (hz : xs.length < 1000) (q : Q .non (upd H p (.lst (xs ++ [y])))) : rAppend (.ref p) [y] H Q := ⟨p, xs, y, rfl, rfl, hs, small1000 (Nat.le_of_lt hz), q⟩
theorem rd_cat {p r : Addr} {xs ys : List V} (hx : H p = some (.lst xs)) (hy : H r = some (.lst ys)) (hz : xs.length + ys.length ≤ 1000) (q : ∀ n, H n = none → Q (.ref n) (upd H n (.lst (xs ++ ys)))) : rCat (.ref p) (.ref r) H Q :=
  ⟨p, r, xs, ys, rfl, rfl, hx, hy, Nat.le_of_lt (small1000 hz), q⟩
theorem rd_max {K : PySem.W.Frag} {p : Addr} {ns : List Int} (hs : SqL K H p (ns.map V.int)) (h0 : 0 < ns.length) (q : ∀ m, m ∈ ns → (∀ y, y ∈ ns → y ≤ m) → Q (.int m) H) : rMax K [.ref p] H Q := ⟨p, ns, rfl, hs, h0, q⟩
theorem rd_minL {K : PySem.W.Frag} {p : Addr} {ns : List Int} (hs : SqL K H p (ns.map V.int)) (h0 : 0 < ns.length) (q : ∀ m, m ∈ ns → (∀ y, y ∈ ns → m ≤ y) → Q (.int m) H) : rMin K [.ref p] H Q := ⟨p, ns, rfl, hs, h0, q⟩
theorem rd_sum {K : PySem.W.Frag} {p : Addr} {ns : List Int} (hs : SqL K H p (ns.map V.int)) (q : Q (.int ns.sum) H) : rSum K [.ref p] H Q := ⟨p, ns, rfl, hs, q⟩
theorem rd_eqB {a b : Bool} (q : Q (.bl (decide (V.bl a = V.bl b))) H) : rEq (.bl a) (.bl b) H Q := ⟨rfl, q⟩
theorem rd_neB {a b : Bool} (q : Q (.bl (!decide (V.bl a = V.bl b))) H) : rNe (.bl a) (.bl b) H Q := ⟨rfl, q⟩
theorem rd_isB {a b : Bool} (q : Q (.bl (decide (a = b))) H) : rIsB (.bl a) (.bl b) H Q := ⟨a, b, rfl, rfl, q⟩
theorem rd_niB {a b : Bool} (q : Q (.bl (!decide (a = b))) H) : rNotB (.bl a) (.bl b) H Q := ⟨a, b, rfl, rfl, q⟩
/- tests whose answer is known -/
theorem rd_yes {p : Prop} [Decidable p] {A B : Prop} (hp : p) (h : A) : if decide p = true then A else B := by
  rw [if_pos (decide_eq_true hp)]
  exact h
theorem rd_nay {p : Prop} [Decidable p] {A B : Prop} (hp : ¬ p) (h : B) : if decide p = true then A else B := by
  rw [if_neg (by rw [decide_eq_false hp]; exact Bool.false_ne_true)]
  exact h
theorem rd_split {p : Prop} [Decidable p] {A B : Prop} (h1 : p → A) (h2 : ¬ p → B) : if decide p = true then A else B := by
  by_cases hp : p
  · exact rd_yes hp (h1 hp)
  · exact rd_nay hp (h2 hp)
theorem rd_splitN {p : Prop} [Decidable p] {A B : Prop} (h1 : ¬ p → A) (h2 : p → B) : if (!decide p) = true then A else B := by
  by_cases hp : p
  · rw [decide_eq_true hp]
    exact iteF (h2 hp)
  · rw [decide_eq_false hp]
    exact iteT (h1 hp)
theorem rd_nt {A B : Prop} (h : B) : if (!true) = true then A else B := iteF h
theorem rd_nf {A B : Prop} (h : A) : if (!false) = true then A else B := iteT h
theorem intEq : (V.int i = V.int j) = (i = j) := propext ⟨fun h => V.int.inj h, fun h => by rw [h]⟩
/- builtins by names of ours (the readings have a head then) -/
def rLenL (K : PySem.W.Frag) : List V → Hp → VK → Prop := fun xs H Q => ∃ p ys, xs = [.ref p] ∧ (SqL K H p ys ∨ SqT K H p ys) ∧ Q (.int ys.length) H
theorem call_lenL {X : Cx} : CallR X (.builtin "len") (rLenL X.K) := call_len_seq
theorem rd_len {K : PySem.W.Frag} {p : Addr} {ys : List V} (hs : SqL K H p ys) (q : Q (.int ys.length) H) : rLenL K [.ref p] H Q := ⟨p, ys, rfl, .inl hs, q⟩
theorem rd_lenT {K : PySem.W.Frag} {p : Addr} {ys : List V} (hs : SqT K H p ys) (q : Q (.int ys.length) H) : rLenL K [.ref p] H Q := ⟨p, ys, rfl, .inr hs, q⟩
def rLenZ : List V → Hp → VK → Prop := fun xs H Q => ∃ z, xs = [.str z] ∧ z.length ≤ sizeLine ∧ Q (.int z.length) H
theorem call_lenZ {X : Cx} : CallR X (.builtin "len") rLenZ := call_len_str
theorem rd_lenZ {z : Str} (h : z.length ≤ sizeLine) (q : Q (.int z.length) H) : rLenZ [.str z] H Q := ⟨z, rfl, h, q⟩
def rIntB : List V → Hp → VK → Prop := fun xs H Q => (∃ i, xs = [.int i] ∧ Q (.int i) H) ∨ ∃ k, xs = [.bl k] ∧ Q (.int (if k then 1 else 0)) H
theorem call_intB {X : Cx} : CallR X (.type "int") rIntB := call_int1
theorem rd_int (q : Q (.int (if k then 1 else 0)) H) : rIntB [.bl k] H Q := .inr ⟨k, rfl, q⟩
def rMin2 : List V → Hp → VK → Prop := fun xs H Q => ∃ i j, xs = [.int i, .int j] ∧ Q (.int (if j < i then j else i)) H
theorem call_minI {X : Cx} (hc : X.calm = true) : CallR X (.builtin "min") rMin2 := call_min2 hc
theorem rd_min (q : Q (.int (if j < i then j else i)) H) : rMin2 [.int i, .int j] H Q := ⟨i, j, rfl, q⟩
def rLst (K : PySem.W.Frag) : List V → Hp → VK → Prop := fun xs H Q => ∃ p ys, xs = [.ref p] ∧ (SqL K H p ys ∨ SqT K H p ys) ∧ ∀ l, H l = none → Q (.ref l) (upd H l (.lst ys))
theorem call_lstL {X : Cx} : CallR X (.type "list") (rLst X.K) := call_list_of
theorem rd_lstOf {K : PySem.W.Frag} {p : Addr} {ys : List V} (hs : SqL K H p ys) (q : ∀ l, H l = none → Q (.ref l) (upd H l (.lst ys))) : rLst K [.ref p] H Q := ⟨p, ys, rfl, .inl hs, q⟩
theorem rd_lstOfT {K : PySem.W.Frag} {p : Addr} {ys : List V} (hs : SqT K H p ys) (q : ∀ l, H l = none → Q (.ref l) (upd H l (.lst ys))) : rLst K [.ref p] H Q := ⟨p, ys, rfl, .inr hs, q⟩
/- isinstance -/
theorem rd_isi {K : PySem.W.Frag} {z w : V} {t' u' : Value} (ty : TyX K H z t') (kc : ClsV w u') (e : PySem.W.kitOne K t' u' = some k) (q : Q (.bl k) H) : rIsi K [z, w] H Q := ⟨z, w, t', u', k, rfl, kc, ty, e, q⟩
theorem rd_isiII {K : PySem.W.Frag} (q : Q (.bl true) H) : rIsi K [.int i, .ty "int"] H Q := rd_isi (.base (.int i)) (.ty _) (kit_ty (by decide +kernel)) q
theorem rd_isiIB {K : PySem.W.Frag} (q : Q (.bl false) H) : rIsi K [.int i, .ty "bool"] H Q := rd_isi (.base (.int i)) (.ty _) (kit_ty (by decide +kernel)) q
theorem rd_isiBB {K : PySem.W.Frag} (q : Q (.bl true) H) : rIsi K [.bl k, .ty "bool"] H Q := rd_isi (.base (.bl k)) (.ty _) (kit_ty (by decide +kernel)) q
theorem rd_isiL {K : PySem.W.Frag} {p : Addr} {ys : List V} (hs : H p = some (.lst ys)) (q : Q (.bl true) H) : rIsi K [.ref p, .ty "list"] H Q := rd_isi (.base (.lst hs)) (.ty _) (kit_ty (by decide +kernel)) q
theorem rd_isiT {K : PySem.W.Frag} {p : Addr} {ys : List V} (hs : H p = some (.tup ys)) (q : Q (.bl true) H) : rIsi K [.ref p, .ty "tuple"] H Q := rd_isi (.base (.tup hs)) (.ty _) (kit_ty (by decide +kernel)) q
theorem rd_isiS {K : PySem.W.Frag} {z : Str} (q : Q (.bl true) H) : rIsi K [.str z, .ty "str"] H Q := rd_isi (.base (.str z)) (.ty _) (kit_ty (by decide +kernel)) q
end
/-- a fact of a decided number at a literal list -/
theorem same_new {H : Hp} {p : Addr} {o : HO} (h : H p = none) : Same H (upd H p o) := fun b x e => by
  rw [upd_ne (ne_of_none e h)]
  exact e
theorem same_to {H H1 : Hp} {p : Addr} {o : HO} (a : Same H H1) (h : H1 p = none) : Same H (upd H1 p o) := a.trans (same_new h)
/-- one that H does not track may be written -/
theorem same_put {H H1 : Hp} {p : Addr} {o : HO} (a : Same H H1) (h : H p = none) : Same H (upd H1 p o) := fun b x e => by
  rw [upd_ne (ne_of_none e h)]
  exact a b x e
end Eb
namespace Eb
open PySem PySem.Spec PyProof.Rows L2
section
variable {H : Hp} {Q : VK} {K : PySem.W.Frag} {a D : Addr} {d : Option Addr} {b : Bool} {c : V} {cv : Value}
theorem rd_isH (st : Stood H a D d) (C : HeldC K D) (kc : ClsV c cv) (e : PySem.W.kitOne K (.ref D) cv = some b) (q : Q (.bl b) H) : rIsH K [.ref a, c] H Q := ⟨a, D, d, c, cv, b, rfl, st, C, kc, e, q⟩
theorem rd_isHT {tp : Addr} {cs : List V} {us : List Value} (st : Stood H a D d) (C : HeldC K D) (hT : H tp = some (.tup cs)) (kc : Paired ClsV cs us) (e : PySem.W.kitAny K (.ref D) us = some b) (q : Q (.bl b) H) : rIsHT K [.ref a, .ref tp] H Q :=
  ⟨a, D, tp, d, cs, us, b, rfl, st, C, hT, kc, e, q⟩
theorem stood_new (h : H a = none) : Stood (upd H a (ExH a (.ref D) none)) a D none := ⟨upd_same, fun _ z => nomatch z⟩
theorem Stood.to {p : Addr} {o : HO} (h : H p = none) (t : Stood H a D d) : Stood (upd H p o) a D d :=
  ⟨same_new h _ _ t.1, fun dd e => let ⟨fs, q⟩ := t.2 dd e; ⟨fs, same_new h _ _ q⟩⟩
end
end Eb
/-! more readings -/
namespace Eb
open PySem PySem.Spec PyProof.Rows L2
section
variable {σ : L2.St} {H : Hp} {Q : VK} {D : Ends} {v w x y : V} {ta te : TE} {tr : TA} {i j : Int}
theorem rd_aug {n : Nat} {ti : TIp} (h : σ[n]? = some (some x)) (q : te σ H fun y H1 => ti x y H1 fun z H2 => D.nx (σ.set n (some z)) H2) : tAug n te ti D σ H := ⟨x, h, q⟩
theorem rd_ipI {f : Int → Int → Int} (q : Q (.int (f i j)) H) : ipI f (.int i) (.int j) H Q := ⟨i, j, rfl, rfl, q⟩
theorem rd_par {n m : Nat} (q : tr σ H fun vs H1 => ∃ v w, vs = [v, w] ∧ D.nx ((σ.set n (some v)).set m (some w)) H1) : tPar n m tr D σ H := q
theorem rd_two {B : V → V → Prop} (q : B v w) : ∃ v' w', [v, w] = [v', w'] ∧ B v' w' := ⟨v, w, rfl, q⟩
theorem rd_izip {K : PySem.W.Frag} {R : It → Hp → Prop} (q : tr σ H fun vs H1 => ∃ a b xs ys, vs = [.ref a, .ref b] ∧ SqL K H1 a xs ∧ SqL K H1 b ys ∧ R (Itz K a b) H1) : iZip K tr σ H R := q
theorem rd_clear {p : Addr} {xs : List V} (h : H p = some (.lst xs)) (q : Q .non (upd H p (.lst []))) : rClear (.ref p) [] H Q := ⟨p, xs, rfl, rfl, h, q⟩
theorem rd_rep {p : Addr} {xs : List V} {k : Int} (h : H p = some (.lst xs)) (h0 : 0 ≤ k) (h1 : k ≤ 1000) (hl : xs.length * k.toNat ≤ 1000) (q : ∀ n, H n = none → Q (.ref n) (upd H n (.lst (List.replicate k.toNat xs).flatten))) : rRep (.ref p) (.int k) H Q :=
  ⟨p, k, xs, rfl, rfl, h, by omega, by omega, Nat.le_of_lt (small1000 hl), q⟩
theorem rd_index {K : PySem.W.Frag} {p : Addr} {ns : List Int} {m : Int} (hs : SqL K H p (ns.map V.int)) (hm : m ∈ ns) (q : Q (.int (ns.idxOf m : Nat)) H) : rIndex K (.ref p) [.int m] H Q := by
  have hlt : ns.idxOf m < ns.length := List.idxOf_lt_length_iff.mpr hm
  refine ⟨p, ns.map V.int, .int m, ns.idxOf m, .int m, rfl, rfl, hs, rfl, ?_, ?_, ?_, ?_, q⟩
  · rw [List.all_map]
    exact List.all_eq_true.mpr fun _ _ => rfl
  · rw [List.getElem?_map, List.getElem?_eq_getElem hlt, List.getElem_idxOf]
    rfl
  · show (m == m) = true
    exact beq_self_eq_true m
  · intro k z hk hz
    rw [List.getElem?_map, List.getElem?_eq_getElem (by omega)] at hz
    cases hz
    show (_ == m) = false
    have := List.not_of_lt_findIdx (p := (· == m)) (xs := ns) (i := k) hk
    simpa using this
theorem tab_succ (g : Nat → Int) (i : Nat) : (((List.range (i + 1)).map g).map V.int) = ((List.range i).map g).map V.int ++ [V.int (g i)] := by
  rw [List.range_succ, List.map_append, List.map_append]
  rfl
theorem tab_len (g : Nat → Int) (i : Nat) : (((List.range i).map g).map V.int).length = i := by
  rw [List.length_map, List.length_map, List.length_range]
theorem int_at {ns : List Int} {k : Nat} {z : Int} (h : ns[k]? = some z) : (ns.map V.int)[k]? = some (V.int z) := by
  rw [List.getElem?_map, h]
  rfl
theorem cut_to {ns : List Int} {k : Nat} : cutV (ns.map V.int) none (some (k : Int)) = (ns.take k).map V.int := by
  unfold cutV
  rw [HT.sIx_none, HT.sIx_nat, List.drop_zero, Nat.sub_zero, List.map_take, List.length_map]
  by_cases c : k ≤ ns.length
  · rw [Nat.min_eq_left c]
  · rw [Nat.min_eq_right (by omega), List.take_of_length_le (by rw [List.length_map]; exact Nat.le_refl _), List.take_of_length_le (by rw [List.length_map]; omega)]
theorem cut_from {ns : List Int} {k : Nat} : cutV (ns.map V.int) (some (k : Int)) none = (ns.drop k).map V.int := by
  unfold cutV
  rw [HT.sIx_none, HT.sIx_nat, List.map_drop, List.length_map]
  by_cases c : k ≤ ns.length
  · rw [Nat.min_eq_left c, List.take_of_length_le (by rw [List.length_drop, List.length_map]; exact Nat.le_refl _)]
  · rw [Nat.min_eq_right (by omega), List.drop_of_length_le (by rw [List.length_map]; exact Nat.le_refl _), List.drop_of_length_le (by rw [List.length_map]; omega), List.take_nil]
theorem cut_mid {ns : List Int} {a b : Nat} (h : a ≤ b) (hb : b ≤ ns.length) : cutV (ns.map V.int) (some (a : Int)) (some (b : Int)) = ((ns.drop a).take (b - a)).map V.int := by
  unfold cutV
  rw [HT.sIx_nat, HT.sIx_nat, List.length_map, Nat.min_eq_left (show a ≤ ns.length by omega), Nat.min_eq_left hb, List.map_take, List.map_drop]
end
/- rules whose reading names K alone (for what stands in a comprehension) -/
section
variable {X : Cx} {K : PySem.W.Frag}
theorem ixK (h : X.K = K) : IxR X (rIxL K) := by subst h; exact ix_list
theorem ixTK (h : X.K = K) : IxR X (rIxT K) := by subst h; exact ix_tup
theorem slK (h : X.K = K) : SlR X (rSlL K) := by subst h; exact sl_list
theorem sumK (h : X.K = K) (hc : X.calm = true) : CallR X (.builtin "sum") (rSum K) := by subst h; exact cr_sum hc
theorem lenK (h : X.K = K) : CallR X (.builtin "len") (rLenL K) := by subst h; exact call_lenL
theorem bt_sum : bootBuiltins "sum" = some (.builtin "sum") := by decide +kernel
end
section
variable {X : Cx} {σ : L2.St} {H : Hp} {Q : VK} {tr : TA} {D : Ends} {v : V} {p : Addr} {R : It → Hp → Prop}
def rIsN : R2 := fun x y H Q => y = .non ∧ Q (.bl (decide (x = .non))) H
def rNotN : R2 := fun x y H Q => y = .non ∧ Q (.bl (!decide (x = .non))) H
theorem opIsN : OpR X (compareOp .Is) rIsN := op_isN
theorem opNotN : OpR X (compareOp .IsNot) rNotN := op_notN
theorem rd_isNN (q : Q (.bl true) H) : rIsN .non .non H Q := ⟨rfl, q⟩
theorem rd_isNR (q : Q (.bl false) H) : rIsN (.ref p) .non H Q := ⟨rfl, q⟩
theorem rd_notNN (q : Q (.bl false) H) : rNotN .non .non H Q := ⟨rfl, q⟩
theorem rd_notNR (q : Q (.bl true) H) : rNotN (.ref p) .non H Q := ⟨rfl, q⟩
theorem rd_rng2 (q : tr σ H fun vs H1 => ∃ i j : Int, vs = [.int i, .int j] ∧ (-(2 ^ 62) ≤ i ∧ i < 2 ^ 62 ∧ -(2 ^ 62) ≤ j ∧ j < 2 ^ 62) ∧ R (Itr i (j - i).toNat) H1) : iRng2 tr σ H R := q
theorem rd_it {K : PySem.W.Frag} {tl : TE} (q : tl σ H fun x H1 => ∃ a, x = .ref a ∧ (∃ xs, SqT K H1 a xs) ∧ R (Itt K a) H1) : iTup K tl σ H R := q
end
/-- a statement of a block by what holds behind it -/
theorem rd_cut {t u : TS} {D : Ends} {σ : L2.St} {H : Hp} (P : L2.St → Hp → Prop) (h1 : ∀ U : L2.St → Hp → Prop, (∀ σ' H', P σ' H' → U σ' H') → t { D with nx := U } σ H) (h2 : ∀ σ' H', P σ' H' → u D σ' H') : tSeq t u D σ H := h1 (u D) h2
theorem ix_ok {n : Nat} {i : Int} (h0 : 0 ≤ i) (h1 : i < n) : ixN n i = some i.toNat := by
  unfold ixN
  rw [if_pos h0, if_pos (by omega)]
theorem cut_any (ns : List Int) (lo hi : Option Int) : ∃ ms : List Int, cutV (ns.map V.int) lo hi = ms.map V.int ∧ (∀ x ∈ ms, x ∈ ns) ∧ ms.length ≤ ns.length := by
  refine ⟨(ns.drop (HT.sIx ns.length 0 lo)).take (HT.sIx ns.length ns.length hi - HT.sIx ns.length 0 lo), ?_, fun x hx => List.mem_of_mem_drop (List.mem_of_mem_take hx), ?_⟩
  · unfold cutV
    rw [List.length_map, List.map_take, List.map_drop]
  · rw [List.length_take, List.length_drop]
    omega
theorem cut_len_from {ns ms : List Int} {k : Nat} {hi : Int} (h : cutV (ns.map V.int) (some (k : Int)) (some hi) = ms.map V.int) (h0 : 0 ≤ hi) : ms.length ≤ hi.toNat - k := by
  have := congrArg List.length h
  obtain ⟨j, rfl⟩ : ∃ j : Nat, hi = j := ⟨_, (Int.toNat_of_nonneg h0).symm⟩
  unfold cutV at this
  rw [HT.sIx_nat, HT.sIx_nat, List.length_take, List.length_drop, List.length_map, List.length_map] at this
  rw [Int.toNat_natCast]
  omega
end Eb
namespace Eb
open PySem PySem.Spec PyProof.Rows L2
local macro_rules | `(tactic| walk_at "rd") => `(tactic| (first
  | with_reducible refine rd_seq ?_ | with_reducible refine rd_asg ?_ | with_reducible refine rd_op ?_ | ((with_reducible refine' rd_var ?hrd ?_); (case hrd => rfl)) | with_reducible refine rd_c ?_
  | with_reducible refine rd_I0 ?_ | ((with_reducible refine rd_I (C := CDiv) ?hrd ?_); (case hrd => exact ⟨by decide, by decide⟩)) | ((with_reducible refine rd_I (C := fun _ j => 0 < j) ?hrd ?_); (case hrd => (first | omega | decide | assumption)))
  | ((with_reducible refine rd_I (C := CPow) ?hrd ?_); (case hrd => exact ⟨by decide, by decide, by decide⟩))
  | ((with_reducible refine rd_I (C := CMul) ?hrd ?_); (case hrd => (first | exact .inl ⟨by decide, by decide⟩ | exact .inr ⟨by decide, by decide⟩ | (unfold CMul; omega))))
  | with_reducible refine rd_U ?_ | with_reducible refine rd_un ?_ | with_reducible refine rd_eqI ?_ | with_reducible refine rd_neI ?_ | with_reducible refine rd_cons ?_ | with_reducible refine rd_nil ?_ | with_reducible refine rd_cb ?_
  | with_reducible refine rd_call ?_ | with_reducible refine rd_callS ?_ | with_reducible refine rd_test ?_ | with_reducible refine rd_tb ?_ | with_reducible refine rd_bl ?_ | with_reducible refine rd_and ?_ | with_reducible refine rd_or ?_
  | with_reducible refine rd_not ?_ | with_reducible refine rd_andV ?_ | with_reducible refine rd_orV ?_ | with_reducible refine rd_notV ?_ | with_reducible refine rd_ifE ?_ | with_reducible refine rd_gn ?_ | with_reducible refine rd_ret ?_
  | with_reducible refine rd_ifS ?_ | with_reducible refine rd_drop ?_ | with_reducible refine rd_next ?_ | with_reducible refine rd_tup ?_ | with_reducible refine rd_lst ?_ | with_reducible refine rd_sl ?_ | with_reducible refine rd_no ?_
  | ((with_reducible refine' rd_len ?hrd ?_); (case hrd => assumption)) | ((with_reducible refine' rd_lenT ?hrd ?_); (case hrd => assumption)) | with_reducible refine rd_int ?_ | with_reducible refine rd_min ?_ | with_reducible refine rd_isiII ?_ | with_reducible refine rd_isiIB ?_ | with_reducible refine rd_isiBB ?_ | with_reducible refine rd_isiS ?_ | ((with_reducible refine' rd_isiL ?hrd ?_); (case hrd => assumption)) | ((with_reducible refine' rd_isiT ?hrd ?_); (case hrd => assumption))
  | with_reducible refine rd_for ?_ | with_reducible refine rd_lc ?_ | with_reducible refine rd_tyes ?_ | with_reducible refine rd_rng1 ?_ | with_reducible refine rd_gsub ?_ | with_reducible refine rd_lrg ?_ | with_reducible refine rd_rg1 ?_ | with_reducible refine rd_eqZ ?_ | with_reducible refine rd_neZ ?_ | with_reducible refine rd_chain ?_ | with_reducible refine rd_m1 ?_ | with_reducible refine rd_isZ ?_ | ((with_reducible refine' rd_gtup ?hrd ?hrn ?_); (case hrd => assumption); (case hrn => rfl)) | with_reducible refine rd_gcons ?_ | with_reducible refine rd_gnil ?_ | with_reducible refine rd_is ?_ | with_reducible refine rd_isx ?_
  | with_reducible refine rd_il ?_ | with_reducible refine rd_part ?_ | with_reducible refine rd_partI ?_ | with_reducible refine rd_bm ?_ | with_reducible refine rd_bm0 ?_ | with_reducible refine rd_eqB ?_ | with_reducible refine rd_neB ?_ | with_reducible refine rd_isB ?_ | with_reducible refine rd_niB ?_
  | with_reducible refine rd_nt ?_ | with_reducible refine rd_nf ?_ | with_reducible refine iteT ?_ | with_reducible refine iteF ?_
  | ((with_reducible refine' rd_aug ?hrd ?_); (case hrd => rfl)) | with_reducible refine rd_ipI ?_ | with_reducible refine rd_par ?_ | with_reducible refine rd_two ?_ | with_reducible refine rd_izip ?_
  | with_reducible refine rd_isNN ?_ | with_reducible refine rd_isNR ?_ | with_reducible refine rd_notNN ?_ | with_reducible refine rd_notNR ?_ | with_reducible refine rd_rng2 ?_))
def topS (i : Nat) : Stmt := PySem.Challenge.pw_evenbeat_k06_grouped_by_hand.main.body.getD i (.Pass ⟨0, 0, 0, 0⟩)
abbrev s_look_at_wheel : Stmt := topS 8
abbrev N_look_at_wheel : List Str := ["strokes", "places"]
theorem sc_look_at_wheel : FnScope N_look_at_wheel ["strokes", "places"] (defScope s_look_at_wheel) := ⟨rfl, rfl, rfl, by decide +kernel, rfl, by decide +kernel, by decide +kernel⟩
abbrev s_look_at_row : Stmt := topS 9
abbrev N_look_at_row : List Str := ["strokes", "places"]
theorem sc_look_at_row : FnScope N_look_at_row ["strokes", "places"] (defScope s_look_at_row) := ⟨rfl, rfl, rfl, by decide +kernel, rfl, by decide +kernel, by decide +kernel⟩
abbrev s_grouped : Stmt := topS 11
abbrev N_grouped : List Str := ["strokes", "places", "first", "second", "many", "others", "joined"]
theorem sc_grouped : FnScope N_grouped ["strokes", "places"] (defScope s_grouped) := ⟨rfl, rfl, rfl, by decide +kernel, rfl, by decide +kernel, by decide +kernel⟩
abbrev s_cell_at : Stmt := topS 13
abbrev N_cell_at : List Str := ["_law_script", "_law_k"]
theorem sc_cell_at : FnScope N_cell_at ["_law_script", "_law_k"] (defScope s_cell_at) := ⟨rfl, rfl, rfl, by decide +kernel, rfl, by decide +kernel, by decide +kernel⟩
abbrev s_groups : Stmt := topS 14
abbrev N_groups : List Str := ["_law_strokes", "_law_places", "_law_ones", "_law_others", "_law_many", "_law_joined", "_law_k"]
theorem sc_groups : FnScope N_groups ["_law_strokes", "_law_places"] (defScope s_groups) := ⟨rfl, rfl, rfl, by decide +kernel, rfl, by decide +kernel, by decide +kernel⟩
abbrev s_alike : Stmt := topS 15
abbrev N_alike : List Str := ["_law_found", "_law_groups_here", "_law_due", "_law_group", "_law_k"]
theorem sc_alike : FnScope N_alike ["_law_found", "_law_groups_here"] (defScope s_alike) := ⟨rfl, rfl, rfl, by decide +kernel, rfl, by decide +kernel, by decide +kernel⟩
abbrev s_wrong : Stmt := topS 16
abbrev N_wrong : List Str := ["_law_way", "_law_cell", "_law_other", "_law_far"]
theorem sc_wrong : FnScope N_wrong ["_law_way", "_law_cell", "_law_other"] (defScope s_wrong) := ⟨rfl, rfl, rfl, by decide +kernel, rfl, by decide +kernel, by decide +kernel⟩
abbrev s_refused : Stmt := topS 17
abbrev N_refused : List Str := ["_law_strokes", "_law_places", "_law_error", "e"]
theorem sc_refused : FnScope N_refused ["_law_strokes", "_law_places"] (defScope s_refused) := ⟨rfl, rfl, rfl, by decide +kernel, rfl, by decide +kernel, by decide +kernel⟩
abbrev s_law : Stmt := topS 18
abbrev N_law : List Str := ["_law_script", "_law_wheels", "_law_k", "_law_places", "_law_due", "_law_found", "_law_other", "_law_strokes"]
theorem sc_law : FnScope N_law ["_law_script"] (defScope s_law) := ⟨rfl, rfl, rfl, by decide +kernel, rfl, by decide +kernel, by decide +kernel⟩
structure Txt (K : PySem.W.Frag) (mg : Str → Option Value) where
  f_look_at_wheel : Addr
  fd_look_at_wheel : FuncData
  F_look_at_wheel : Fun K "look_at_wheel" "look_at_wheel" s_look_at_wheel f_look_at_wheel fd_look_at_wheel
  k_look_at_wheel : PySem.W.keepIn K (.ref f_look_at_wheel) = true
  g_look_at_wheel : mg "look_at_wheel" = some (.ref f_look_at_wheel)
  b_look_at_wheel : Binds K fd_look_at_wheel ["strokes", "places"] []
  f_look_at_row : Addr
  fd_look_at_row : FuncData
  F_look_at_row : Fun K "look_at_row" "look_at_row" s_look_at_row f_look_at_row fd_look_at_row
  k_look_at_row : PySem.W.keepIn K (.ref f_look_at_row) = true
  g_look_at_row : mg "look_at_row" = some (.ref f_look_at_row)
  b_look_at_row : Binds K fd_look_at_row ["strokes", "places"] []
  f_grouped : Addr
  fd_grouped : FuncData
  F_grouped : Fun K "grouped" "grouped" s_grouped f_grouped fd_grouped
  k_grouped : PySem.W.keepIn K (.ref f_grouped) = true
  g_grouped : mg "grouped" = some (.ref f_grouped)
  b_grouped : Binds K fd_grouped ["strokes", "places"] []
  f_cell_at : Addr
  fd_cell_at : FuncData
  F_cell_at : Fun K "_law_cell_at" "_law_cell_at" s_cell_at f_cell_at fd_cell_at
  k_cell_at : PySem.W.keepIn K (.ref f_cell_at) = true
  g_cell_at : mg "_law_cell_at" = some (.ref f_cell_at)
  b_cell_at : Binds K fd_cell_at ["_law_script", "_law_k"] []
  f_groups : Addr
  fd_groups : FuncData
  F_groups : Fun K "_law_groups" "_law_groups" s_groups f_groups fd_groups
  k_groups : PySem.W.keepIn K (.ref f_groups) = true
  g_groups : mg "_law_groups" = some (.ref f_groups)
  b_groups : Binds K fd_groups ["_law_strokes", "_law_places"] []
  f_alike : Addr
  fd_alike : FuncData
  F_alike : Fun K "_law_alike" "_law_alike" s_alike f_alike fd_alike
  k_alike : PySem.W.keepIn K (.ref f_alike) = true
  g_alike : mg "_law_alike" = some (.ref f_alike)
  b_alike : Binds K fd_alike ["_law_found", "_law_groups_here"] []
  f_wrong : Addr
  fd_wrong : FuncData
  F_wrong : Fun K "_law_wrong" "_law_wrong" s_wrong f_wrong fd_wrong
  k_wrong : PySem.W.keepIn K (.ref f_wrong) = true
  g_wrong : mg "_law_wrong" = some (.ref f_wrong)
  b_wrong : Binds K fd_wrong ["_law_way", "_law_cell", "_law_other"] []
  f_refused : Addr
  fd_refused : FuncData
  F_refused : Fun K "_law_refused" "_law_refused" s_refused f_refused fd_refused
  k_refused : PySem.W.keepIn K (.ref f_refused) = true
  g_refused : mg "_law_refused" = some (.ref f_refused)
  b_refused : Binds K fd_refused ["_law_strokes", "_law_places"] []
  m_len : mg "len" = none
  m_range : mg "range" = none
  m_min : mg "min" = none
  m_isinstance : mg "isinstance" = none
  m_bool : mg "bool" = none
  m_int : mg "int" = none
  m_list : mg "list" = none
  m_ValueError : mg "ValueError" = none
  tok_LONGEST : Tok
  gv_LONGEST : mg "LONGEST" = some (.int 120 tok_LONGEST)
  c_BeatError : Addr
  gc_BeatError : mg "BeatError" = some (.ref c_BeatError)
  c_NoWheel : Addr
  gc_NoWheel : mg "NoWheel" = some (.ref c_NoWheel)
  c_NoStroke : Addr
  gc_NoStroke : mg "NoStroke" = some (.ref c_NoStroke)
  c_NoRow : Addr
  gc_NoRow : mg "NoRow" = some (.ref c_NoRow)
  c_Uneven : Addr
  gc_Uneven : mg "Uneven" = some (.ref c_Uneven)
  x_NoWheel : PySem.W.excIn K c_NoWheel [.type "ValueError", .type "Exception", .type "BaseException", .type "object"] "ValueError.__new__" = true
  kc_NoWheel : PySem.W.keepIn K (.ref c_NoWheel) = true
  sub_NoWheel : PySem.W.subIn K (.ref c_NoWheel) (.type "BaseException") = some true
  ty_NoWheel : PySem.W.typeIn K (.ref c_NoWheel) = some (.type "type")
  h_NoWheel : HeldC K c_NoWheel
  ve_NoWheel : PySem.W.kitOne K (.ref c_NoWheel) (.type "ValueError") = some true
  kit_NoWheel_BeatError : PySem.W.kitOne K (.ref c_NoWheel) (.ref c_BeatError) = some true
  exm_NoWheel : PySem.W.exmOne K (.ref c_NoWheel) (.ref c_BeatError) = some true
  kit_NoWheel_NoWheel : PySem.W.kitOne K (.ref c_NoWheel) (.ref c_NoWheel) = some true
  kit_NoWheel_NoStroke : PySem.W.kitOne K (.ref c_NoWheel) (.ref c_NoStroke) = some false
  kit_NoWheel_NoRow : PySem.W.kitOne K (.ref c_NoWheel) (.ref c_NoRow) = some false
  kit_NoWheel_Uneven : PySem.W.kitOne K (.ref c_NoWheel) (.ref c_Uneven) = some false
/-! the row by groups -/
def rep (m : Nat) (A : List Int) : List Int := (List.replicate m A).flatten
theorem rep_len (m : Nat) (A : List Int) : (rep m A).length = A.length * m := by
  unfold rep
  rw [List.length_flatten, List.map_replicate, List.sum_replicate_nat, Nat.mul_comm]
theorem rep_succ (m : Nat) (A : List Int) : rep (m + 1) A = A ++ rep m A := by
  unfold rep
  rw [List.replicate_succ, List.flatten_cons]
theorem le_mul1 {a m : Nat} (h : 0 < m) : a ≤ a * m := Nat.le_mul_of_pos_right a h
theorem len_more {a b m o : Nat} (h : o < m) : (a + b) * o + a * (m - o) = a * m + b * o := by
  have e : a * m = a * o + a * (m - o) := by rw [← Nat.mul_add, show o + (m - o) = m by omega]
  rw [e, Nat.add_mul]
  omega
theorem len_less {a b m o : Nat} (h : ¬ o < m) : (a + b) * m + b * (o - m) = a * m + b * o := by
  have e : b * o = b * m + b * (o - m) := by rw [← Nat.mul_add, show m + (o - m) = o by omega]
  rw [e, Nat.add_mul]
  omega
def res (A B : List Int) (m o : Nat) : List Int :=
  if h : 0 < m ∧ 0 < o then
    if o < m then res (A ++ B) A o (m - o) else res (A ++ B) B m (o - m)
  else rep m A ++ rep o B
termination_by m + o
theorem res_end {A B : List Int} {m o : Nat} (h : ¬ (0 < m ∧ 0 < o)) : res A B m o = rep m A ++ rep o B := by
  rw [res, dif_neg h]
theorem res_more {A B : List Int} {m o : Nat} (h : 0 < o) (k : o < m) : res A B m o = res (A ++ B) A o (m - o) := by
  rw [res, dif_pos ⟨by omega, h⟩, if_pos k]
theorem res_less {A B : List Int} {m o : Nat} (h : 0 < m) (k : ¬ o < m) : res A B m o = res (A ++ B) B m (o - m) := by
  rw [res, dif_pos ⟨h, by omega⟩, if_neg k]
def groupRow (s p : Int) : List Int := res [1] [0] s.toNat (p - s).toNat
theorem res_len : ∀ (k : Nat) {A B : List Int} {m o : Nat}, m + o ≤ k → (res A B m o).length = A.length * m + B.length * o
  | 0, A, B, m, o, h => by
    rw [res_end (by omega), List.length_append, rep_len, rep_len]
  | k + 1, A, B, m, o, h => by
    by_cases c : 0 < m ∧ 0 < o
    · by_cases d : o < m
      · rw [res_more c.2 d, res_len k (by omega), List.length_append, len_more d]
      · rw [res_less c.1 d, res_len k (by omega), List.length_append, len_less d]
    · rw [res_end c, List.length_append, rep_len, rep_len]
theorem group_len {s p : Int} (h0 : 0 ≤ s) (h : s ≤ p) : ((groupRow s p).length : Int) = p := by
  unfold groupRow
  rw [res_len _ (Nat.le_refl _), show ([1] : List Int).length = 1 from rfl, show ([0] : List Int).length = 1 from rfl]
  omega
section
variable {P : Program} {w : World} {K : PySem.W.Frag} {mg : Str → Option Value} {base : Heap}
/-! ### the program -/
def Wheel (s p : Int) : Prop := ¬ p < 1 ∧ ¬ s < 0 ∧ ¬ s > p
def sp_look (C : Addr) : Sp := fun vs H Q E => ∃ (s p : Int), vs = [.int s, .int p] ∧ (¬ Wheel s p → E (.ref C) none H) ∧ (Wheel s p → Q .non H)
theorem ok_look_at_wheel (T : Txt K mg) : FnOk P w K mg base (L2.CX P w) 1 T.f_look_at_wheel T.fd_look_at_wheel ["strokes", "places"] (sp_look T.c_NoWheel) := by
  refine T.F_look_at_wheel.okX sc_look_at_wheel (fun vs H Q E h => ?_) (fun cdv A outer s H vs Q E hr h => ?_)
  · obtain ⟨s, p, rfl, _⟩ := h
    rfl
  · obtain ⟨s, p, rfl, e, q⟩ := h
    refine ⟨_, (pss_one (ps_if (PW.pt (pw_or (pt_cmpR op_lt (pv 1) pe_int (nomark _)) (pw_or (pt_cmpR op_lt (pv 0) pe_int (nomark _)) (pw_or1 (pt_cmpR op_gt (pv 0) (pv 1) (nomark _))))))
      (pss_one (ps_raise rfl (takes_of rfl rfl rfl rfl) (pmk_own PySem.F.excBase_ValueError T.x_NoWheel T.gc_NoWheel T.kc_NoWheel (raises_own T.sub_NoWheel T.ty_NoWheel) rfl)))
      pss_nil)), ?_⟩
    repeat walk_at "rd"
    refine rd_split (fun c => ?_) fun c => ?_
    · exact e fun z => z.1 c
    repeat walk_at "rd"
    refine rd_split (fun c1 => ?_) fun c1 => ?_
    · exact e fun z => z.2.1 c1
    repeat walk_at "rd"
    refine rd_split (fun c2 => ?_) fun c2 => ?_
    · exact e fun z => z.2.2 c2
    exact q ⟨c, c1, c2⟩
def sp_look_row (C : Addr) : Sp := fun vs H Q E => ∃ (s p : Int), vs = [.int s, .int p] ∧ (¬ (Wheel s p ∧ p ≤ 120) → E (.ref C) none H) ∧ (Wheel s p → p ≤ 120 → Q .non H)
theorem ok_look_at_row (T : Txt K mg) : FnOk P w K mg base (L2.CX P w) 2 T.f_look_at_row T.fd_look_at_row ["strokes", "places"] (sp_look_row T.c_NoWheel) := by
  refine T.F_look_at_row.okX sc_look_at_row (fun vs H Q E h => ?_) (fun cdv A outer s H vs Q E hr h => ?_)
  · obtain ⟨s, p, rfl, _⟩ := h
    rfl
  · obtain ⟨s, p, rfl, e, q⟩ := h
    refine ⟨_, (pss_cons (ps_expr (pe_callS (ok_look_at_wheel T) hr (by rfl) T.g_look_at_wheel T.k_look_at_wheel T.b_look_at_wheel (fun σ => passAt (takes_of rfl rfl rfl rfl) σ) (pa_cons (pv 0) (pa_cons (pv 1) pa_nil))))
    (pss_one (ps_if (pt_cmpR op_gt (pv 1) (pe_glob (v := .int 120) (by rfl) T.gv_LONGEST ⟨_, rfl⟩) (nomark _))
      (pss_one (ps_raise rfl (takes_of rfl rfl rfl rfl) (pmk_own PySem.F.excBase_ValueError T.x_NoWheel T.gc_NoWheel T.kc_NoWheel (raises_own T.sub_NoWheel T.ty_NoWheel) rfl)))
      pss_nil))), ?_⟩
    repeat walk_at "rd"
    refine ⟨s, p, rfl, fun z => e fun y => z y.1, fun hw => ?_⟩
    repeat walk_at "rd"
    refine rd_split (fun c => ?_) fun c => ?_
    · exact e fun z => by
        have := z.2
        omega
    · exact q hw (by omega)
theorem rep_map (m : Nat) (A : List Int) : (List.replicate m (A.map V.int)).flatten = (rep m A).map V.int := by
  unfold rep
  rw [List.map_flatten, List.map_replicate]
def sp_grouped (C : Addr) : Sp := fun vs H Q E => ∃ (s p : Int), vs = [.int s, .int p] ∧ (¬ (Wheel s p ∧ p ≤ 120) → E (.ref C) none H) ∧
  (Wheel s p → p ≤ 120 → ∀ H' r, Same H H' → H r = none → H' r = some (.lst ((groupRow s p).map V.int)) → Q (.ref r) H')
theorem ok_grouped (T : Txt K mg) : FnOk P w K mg base (L2.CX P w) 3 T.f_grouped T.fd_grouped ["strokes", "places"] (sp_grouped T.c_NoWheel) := by
  refine T.F_grouped.okX sc_grouped (fun vs H Q E h => ?_) (fun cdv A outer s H vs Q E hr h => ?_)
  · obtain ⟨s, p, rfl, _⟩ := h
    rfl
  · obtain ⟨s, p, rfl, e, q⟩ := h
    refine ⟨_, (pss_cons (ps_expr (pe_callS (ok_look_at_row T) hr (by rfl) T.g_look_at_row T.k_look_at_row T.b_look_at_row (fun σ => passAt (takes_of rfl rfl rfl rfl) σ) (pa_cons (pv 0) (pa_cons (pv 1) pa_nil))))
    (pss_cons (ps_set (i := 2) sc_grouped.nd rfl (Or.inl rfl) (pe_lst (pa_cons pe_int pa_nil)))
    (pss_cons (ps_set (i := 3) sc_grouped.nd rfl (Or.inl rfl) (pe_lst (pa_cons pe_int pa_nil)))
    (pss_cons (ps_set (i := 4) sc_grouped.nd rfl (Or.inl rfl) (pv 0))
    (pss_cons (ps_set (i := 5) sc_grouped.nd rfl (Or.inl rfl) (pe_op op_sub (pv 1) (pv 0)))
    (pss_cons (ps_while (passes_of rfl) (PW.pt (pw_and (pt_cmpR op_gt (pv 4) pe_int (nomark _)) (pw_and1 (pt_cmpR op_gt (pv 5) pe_int (nomark _)))))
      (pss_cons (ps_set (i := 6) sc_grouped.nd rfl (Or.inl rfl) (pe_op op_cat (pv 2) (pv 3)))
      (pss_cons (ps_if (pt_cmpR op_gt (pv 4) (pv 5) (nomark _))
        (pss_cons (ps_set (i := 3) sc_grouped.nd rfl (Or.inl rfl) (pv 2))
        (pss_one (ps_par (i := 4) (j := 5) (by rfl) sc_grouped.nd rfl rfl (by decide) rfl rfl (pa_cons (pv 5) (pa_cons (pe_op op_sub (pv 4) (pv 5)) pa_nil)) (by rfl))))
        (pss_one (ps_set (i := 5) sc_grouped.nd rfl (Or.inl rfl) (pe_op op_sub (pv 5) (pv 4)))))
      (pss_one (ps_set (i := 2) sc_grouped.nd rfl (Or.inl rfl) (pv 6))))))
    (pss_one (ps_ret (pe_op op_cat (pe_op op_rep (pv 2) (pv 4)) (pe_op op_rep (pv 3) (pv 5))))))))))), ?_⟩
    repeat walk_at "rd"
    refine ⟨s, p, rfl, e, fun hw hp => ?_⟩
    have p1 : 1 ≤ p := by have := hw.1; omega
    have s0 : 0 ≤ s := by have := hw.2.1; omega
    have sp : s ≤ p := by have := hw.2.2; omega
    repeat walk_at "rd"
    refine ⟨by show 1 ≤ sizeLine; decide, fun f nf => ?_⟩
    have sf := same_new (o := .lst [.int 1]) nf
    have ef : upd H f (.lst [.int 1]) f = some (.lst (([1] : List Int).map V.int)) := upd_same
    generalize upd H f (.lst [.int 1]) = H1 at sf ef ⊢
    repeat walk_at "rd"
    refine ⟨by show 1 ≤ sizeLine; decide, fun g ng => ?_⟩
    have sg := same_new (o := .lst [.int 0]) ng
    have eg : upd H1 g (.lst [.int 0]) g = some (.lst (([0] : List Int).map V.int)) := upd_same
    have ef2 := sg _ _ ef
    have s2 := sf.trans sg
    generalize upd H1 g (.lst [.int 0]) = H2 at s2 ef2 eg ⊢
    repeat walk_at "rd"
    have hs : s = ((s.toNat : Nat) : Int) := by omega
    have ho : p - s = (((p - s).toNat : Nat) : Int) := by omega
    refine ⟨fun k σ H' => ∃ (A B : List Int) (m o : Nat) (fa sb : Addr) (x6 : Option V), k = m + o ∧ σ = [some (.int s), some (.int p), some (.ref fa), some (.ref sb), some (.int m), some (.int o), x6] ∧
        H' fa = some (.lst (A.map V.int)) ∧ H' sb = some (.lst (B.map V.int)) ∧ Same H H' ∧ A.length * m + B.length * o = p.toNat ∧ res A B m o = groupRow s p ∧ m + o ≤ 120,
      ⟨_, [1], [0], s.toNat, (p - s).toNat, f, g, none, rfl, ?_, ef2, eg, s2, ?_, rfl, by omega⟩, ?_⟩
    · rw [← ho, ← hs]
      rfl
    · show 1 * s.toNat + 1 * (p - s).toNat = p.toNat
      omega
    · rintro k σ H' ⟨A, B, m, o, fa, sb, x6, rfl, rfl, ea, eb, sm, ln, hr, bm⟩
      have out : ¬ (0 < m ∧ 0 < o) → ∀ (D : Ends), D.rt = Q → tRet (tOp rCat (tOp rRep (tVar 2) (tVar 4)) (tOp rRep (tVar 3) (tVar 5))) D [some (.int s), some (.int p), some (.ref fa), some (.ref sb), some (.int m), some (.int o), x6] H' := by
        intro hno D hD
        have lA : A.length * m ≤ p.toNat := by omega
        have lB : B.length * o ≤ p.toNat := by omega
        have pz : p.toNat ≤ 120 := by omega
        have mo : (m : Int) ≤ 1000 ∧ (o : Int) ≤ 1000 := by omega
        repeat walk_at "rd"
        refine rd_rep ea (by omega) mo.1 (by rw [List.length_map]; show A.length * m ≤ 1000; omega) fun c nc => ?_
        have eb2 := same_new (o := .lst (List.replicate (m : Int).toNat (A.map V.int)).flatten) nc _ _ eb
        have ec : upd H' c (.lst (List.replicate (m : Int).toNat (A.map V.int)).flatten) c = some (.lst ((rep m A).map V.int)) := by
          rw [upd_same, Int.toNat_natCast, rep_map]
        have sc := sm.trans (same_new (o := .lst (List.replicate (m : Int).toNat (A.map V.int)).flatten) nc)
        generalize upd H' c (.lst (List.replicate (m : Int).toNat (A.map V.int)).flatten) = H3 at eb2 ec sc ⊢
        repeat walk_at "rd"
        refine rd_rep eb2 (by omega) mo.2 (by rw [List.length_map]; show B.length * o ≤ 1000; omega) fun d nd => ?_
        have ec2 := same_new (o := .lst (List.replicate (o : Int).toNat (B.map V.int)).flatten) nd _ _ ec
        have ed : upd H3 d (.lst (List.replicate (o : Int).toNat (B.map V.int)).flatten) d = some (.lst ((rep o B).map V.int)) := by
          rw [upd_same, Int.toNat_natCast, rep_map]
        have sd := sc.trans (same_new (o := .lst (List.replicate (o : Int).toNat (B.map V.int)).flatten) nd)
        generalize upd H3 d (.lst (List.replicate (o : Int).toNat (B.map V.int)).flatten) = H4 at ec2 ed sd ⊢
        refine rd_cat ec2 ed (by rw [List.length_map, List.length_map, rep_len, rep_len]; omega) fun r nr => ?_
        rw [hD]
        refine q hw hp _ r (same_to sd nr) (sd.free nr) ?_
        rw [upd_same, ← hr, res_end hno, List.map_append]
      repeat walk_at "rd"
      refine rd_split (fun c => ?_) fun c => ?_
      · repeat walk_at "rd"
        refine rd_split (fun c1 => ?_) fun c1 => ?_
        · have m0 : 0 < m := by omega
          have o0 : 0 < o := by omega
          have la : A.length ≤ A.length * m := le_mul1 m0
          have lb : B.length ≤ B.length * o := le_mul1 o0
          have pz : p.toNat ≤ 120 := by omega
          refine ⟨_, fun σ' H' hN => hN, ?_⟩
          repeat walk_at "rd"
          refine rd_cat ea eb (by rw [List.length_map, List.length_map]; omega) fun j nj => ?_
          have ej : upd H' j (.lst (A.map V.int ++ B.map V.int)) j = some (.lst ((A ++ B).map V.int)) := by
            rw [upd_same, List.map_append]
          have ea2 := same_new (o := .lst (A.map V.int ++ B.map V.int)) nj _ _ ea
          have eb2 := same_new (o := .lst (A.map V.int ++ B.map V.int)) nj _ _ eb
          have sj := sm.trans (same_new (o := .lst (A.map V.int ++ B.map V.int)) nj)
          generalize upd H' j (.lst (A.map V.int ++ B.map V.int)) = H3 at ej ea2 eb2 sj ⊢
          repeat walk_at "rd"
          refine rd_split (fun c2 => ?_) fun c2 => ?_
          · have k : o < m := by omega
            repeat walk_at "rd"
            refine ⟨o + (m - o), by omega, A ++ B, A, o, m - o, j, fa, some (.ref j), rfl, ?_, ej, ea2, sj, ?_, ?_, by omega⟩
            · rw [show ((m - o : Nat) : Int) = (m : Int) - (o : Int) by omega]
              rfl
            · rw [List.length_append, len_more k]
              exact ln
            · rw [← res_more o0 k]
              exact hr
          · have k : ¬ o < m := by omega
            repeat walk_at "rd"
            refine ⟨m + (o - m), by omega, A ++ B, B, m, o - m, j, sb, some (.ref j), rfl, ?_, ej, eb2, sj, ?_, ?_, by omega⟩
            · rw [show ((o - m : Nat) : Int) = (o : Int) - (m : Int) by omega]
              rfl
            · rw [List.length_append, len_less k]
              exact ln
            · rw [← res_less m0 k]
              exact hr
        · exact out (fun z => c1 (by omega)) _ rfl
      · exact out (fun z => c (by omega)) _ rfl
def cell (ns : List Int) (k : Nat) : Int := ns.getD k 0
def sp_cell_at (K : PySem.W.Frag) : Sp := fun vs H Q _ => ∃ (a : Addr) (ns : List Int) (k : Nat), vs = [.ref a, .int k] ∧ SqL K H a (ns.map V.int) ∧ Q (.int (cell ns k)) H
theorem ok_cell_at (T : Txt K mg) : FnOk P w K mg base CX0 1 T.f_cell_at T.fd_cell_at ["_law_script", "_law_k"] (sp_cell_at K) := by
  refine T.F_cell_at.ok sc_cell_at (fun vs H Q E h => ?_) (fun cdv A outer s H vs Q E hr h => ?_)
  · obtain ⟨a, ns, k, rfl, _⟩ := h
    rfl
  · obtain ⟨a, ns, k, rfl, hS, q⟩ := h
    refine ⟨_, (pss_cons (ps_if (pt_cmpR op_lt (pv 1) (pe_callB call_lenL (by rfl) T.m_len PySem.boot_len (pa_cons (pv 0) pa_nil)) (nomark _))
      (pss_one (ps_ret (pe_ix ix_list (pv 0) (pv 1) (fun _ _ => rfl))))
      pss_nil)
    (pss_one (ps_ret pe_int))), ?_⟩
    repeat walk_at "rd"
    rw [List.length_map]
    refine rd_split (fun c => ?_) fun c => ?_
    · have hk : k < ns.length := by omega
      repeat walk_at "rd"
      refine rd_ixL hS (atI_nat (j := k) (by rw [List.getElem?_map, List.getElem?_eq_getElem hk]; rfl)) ?_
      have e : cell ns k = ns[k] := by
        unfold cell
        rw [List.getD_eq_getElem?_getD, List.getElem?_eq_getElem hk]
        rfl
      rw [e] at q
      exact q
    · have hk : ns.length ≤ k := by omega
      have e : cell ns k = 0 := by
        unfold cell
        rw [List.getD_eq_getElem?_getD, List.getElem?_eq_none hk]
        rfl
      rw [e] at q
      repeat walk_at "rd"
      exact q
def AllAre (H : Hp) (xs : List Addr) (A : List Int) : Prop := ∀ a ∈ xs, H a = some (.lst (A.map V.int))
theorem AllAre.to {H H' : Hp} {xs : List Addr} {A : List Int} (h : AllAre H xs A) (s : Same H H') : AllAre H' xs A := fun a ha => s _ _ (h a ha)
theorem AllAre.snoc {H : Hp} {xs : List Addr} {A : List Int} {a : Addr} (h : AllAre H xs A) (e : H a = some (.lst (A.map V.int))) : AllAre H (xs ++ [a]) A := fun b hb => by
  rcases List.mem_append.mp hb with m | m
  · exact h b m
  · rw [List.mem_singleton.mp m]
    exact e
def Told (H : Hp) (gs : List Addr) (ls : List (List Int)) : Prop := gs.length = ls.length ∧ ∀ (i : Nat) (a : Addr) (l : List Int), gs[i]? = some a → ls[i]? = some l → H a = some (.lst (l.map V.int))
theorem Told.to {H H' : Hp} {gs : List Addr} {ls : List (List Int)} (h : Told H gs ls) (s : Same H H') : Told H' gs ls := ⟨h.1, fun i a l e f => s _ _ (h.2 i a l e f)⟩
theorem told_of {H : Hp} {xs ys : List Addr} {A B : List Int} (hx : AllAre H xs A) (hy : AllAre H ys B) : Told H (xs ++ ys) (List.replicate xs.length A ++ List.replicate ys.length B) := by
  refine ⟨by rw [List.length_append, List.length_append, List.length_replicate, List.length_replicate], fun i a l e f => ?_⟩
  by_cases c : i < xs.length
  · rw [List.getElem?_append_left c] at e
    rw [List.getElem?_append_left (by rw [List.length_replicate]; exact c)] at f
    have : l = A := List.eq_of_mem_replicate (List.mem_of_getElem? f)
    rw [this]
    exact hx a (List.mem_of_getElem? e)
  · rw [List.getElem?_append_right (by omega)] at e
    rw [List.getElem?_append_right (by rw [List.length_replicate]; omega)] at f
    have : l = B := List.eq_of_mem_replicate (List.mem_of_getElem? f)
    rw [this]
    exact hy a (List.mem_of_getElem? e)
theorem cut_refs {xs : List Addr} {k : Nat} (h : k ≤ xs.length) : cutV (xs.map V.ref) (some (k : Int)) none = (xs.drop k).map V.ref := by
  unfold cutV
  rw [HT.sIx_none, HT.sIx_nat, List.map_drop, List.length_map, Nat.min_eq_left h, List.take_of_length_le (by rw [List.length_drop, List.length_map]; exact Nat.le_refl _)]
theorem ref_at {xs : List Addr} {k : Nat} (h : k < xs.length) : (xs.map V.ref)[k]? = some (V.ref xs[k]) := by
  rw [List.getElem?_map, List.getElem?_eq_getElem h]
  rfl
/-- a comprehension that makes n new lists, all of A -/
theorem lc_new {H H' : Hp} {D a : Addr} {A : List Int} {xs : List Addr} (nD : H D = none) (sm : Same H H') (eD : H' D = some (.lst (xs.map V.ref))) (hx : AllAre H' xs A) (nin : D ∉ xs) (fr : ∀ b ∈ xs, H b = none) (na : H' a = none) (hl : xs.length < 1000) :
    ∃ acc, upd H' a (.lst (A.map V.int)) D = some (.lst acc) ∧ acc.length < sizeLine ∧ ∃ ys : List Addr, ys.length = xs.length + 1 ∧ Same H (upd (upd H' a (.lst (A.map V.int))) D (.lst (acc ++ [V.ref a]))) ∧
      upd (upd H' a (.lst (A.map V.int))) D (.lst (acc ++ [V.ref a])) D = some (.lst (ys.map V.ref)) ∧ AllAre (upd (upd H' a (.lst (A.map V.int))) D (.lst (acc ++ [V.ref a]))) ys A ∧ D ∉ ys ∧ ∀ b ∈ ys, H b = none := by
  have da : D ≠ a := ne_of_none eD na
  refine ⟨xs.map V.ref, (upd_ne da).trans eD, small1000 (by rw [List.length_map]; omega), xs ++ [a], by rw [List.length_append]; rfl, same_put (same_to sm na) nD, by rw [upd_same, List.map_append]; rfl, fun b hb => ?_, fun hm => ?_, fun b hb => ?_⟩
  · rcases List.mem_append.mp hb with m | m
    · have bD : b ≠ D := fun z => nin (by rw [← z]; exact m)
      exact (upd_ne bD).trans (same_new na _ _ (hx b m))
    · rw [List.mem_singleton.mp m]
      exact (upd_ne (Ne.symm da)).trans upd_same
  · rcases List.mem_append.mp hm with m | m
    · exact nin m
    · exact da (List.mem_singleton.mp m)
  · rcases List.mem_append.mp hb with m | m
    · exact fr b m
    · rw [List.mem_singleton.mp m]
      exact sm.free na
def sp_groups : Sp := fun vs H Q _ => ∃ (s p : Int), vs = [.int s, .int p] ∧ 0 ≤ s ∧ s ≤ p ∧ p ≤ 120 ∧ ∀ H' g (gs : List Addr) (ls : List (List Int)), Same H H' → H' g = some (.lst (gs.map V.ref)) → Told H' gs ls → H g = none → (∀ b ∈ gs, H b = none) → ls.flatten = groupRow s p → Q (.ref g) H'
theorem ok_groups (T : Txt K mg) : FnOk P w K mg base CX0 1 T.f_groups T.fd_groups ["_law_strokes", "_law_places"] sp_groups := by
  refine T.F_groups.ok sc_groups (fun vs H Q E h => ?_) (fun cdv A outer s H vs Q E hr h => ?_)
  · obtain ⟨s, p, rfl, _⟩ := h
    rfl
  · obtain ⟨s, p, rfl, s0, sp, hp, q⟩ := h
    refine ⟨_, (pss_cons (ps_set (i := 2) sc_groups.nd rfl (Or.inr rfl) (pe_lc (own := [("_law_k", 6)]) (g := gName 6) (tt := tYes) rfl sc_groups.nd (pi_range1 (by rfl) T.m_range (pa_cons (pv 0) pa_nil)) (blkOk_by (N := N_groups) (sc := defScope s_groups) (by decide +kernel)) (fun _ _ _ _ _ => pg_name (i := 6) sc_groups.nd rfl (Or.inl rfl)) (fun _ _ _ _ _ => pts_nil) (fun _ _ _ _ _ => (pe_lst (pa_cons pe_int pa_nil)))))
    (pss_cons (ps_set (i := 3) sc_groups.nd rfl (Or.inr rfl) (pe_lc (own := [("_law_k", 6)]) (g := gName 6) (tt := tYes) rfl sc_groups.nd (pi_range1 (by rfl) T.m_range (pa_cons (pe_op op_sub (pv 1) (pv 0)) pa_nil)) (blkOk_by (N := N_groups) (sc := defScope s_groups) (by decide +kernel)) (fun _ _ _ _ _ => pg_name (i := 6) sc_groups.nd rfl (Or.inl rfl)) (fun _ _ _ _ _ => pts_nil) (fun _ _ _ _ _ => (pe_lst (pa_cons pe_int pa_nil)))))
    (pss_cons (ps_while PassesOwn.never (PW.pt (pw_and (pt_cmpR op_gt (pe_callB call_lenL (by rfl) T.m_len PySem.boot_len (pa_cons (pv 2) pa_nil)) pe_int (nomark _)) (pw_and1 (pt_cmpR op_gt (pe_callB call_lenL (by rfl) T.m_len PySem.boot_len (pa_cons (pv 3) pa_nil)) pe_int (nomark _)))))
      (pss_cons (ps_set (i := 4) sc_groups.nd rfl (Or.inl rfl) (pe_callB (call_minI rfl) (by rfl) T.m_min (by decide +kernel) (pa_cons (pe_callB call_lenL (by rfl) T.m_len PySem.boot_len (pa_cons (pv 2) pa_nil)) (pa_cons (pe_callB call_lenL (by rfl) T.m_len PySem.boot_len (pa_cons (pv 3) pa_nil)) pa_nil))))
      (pss_cons (ps_setLc (i := 5) (own := [("_law_k", 6)]) (g := gName 6) (tt := tYes) rfl sc_groups.nd rfl rfl (sw_true rfl rfl rfl (by decide +kernel)) (pi_range1 (by rfl) T.m_range (pa_cons (pv 4) pa_nil)) (blkOk_by (N := N_groups) (sc := defScope s_groups) (by decide +kernel)) (fun _ _ _ _ _ => pg_name (i := 6) sc_groups.nd rfl (Or.inl rfl)) (fun _ _ _ _ _ => pts_nil) (fun _ _ _ _ _ => (pe_op op_cat (pe_ix (ixK (K := K) rfl) (pv 2) (pv 6) (fun _ _ => rfl)) (pe_ix (ixK (K := K) rfl) (pv 3) (pv 6) (fun _ _ => rfl)))))
      (pss_cons (ps_if (pt_cmpR op_gt (pe_callB call_lenL (by rfl) T.m_len PySem.boot_len (pa_cons (pv 2) pa_nil)) (pv 4) (nomark _))
        (pss_one (ps_set (i := 3) sc_groups.nd rfl (Or.inr rfl) (pe_slice sl_list (pv 2) (po_some (pv 4)) po_none)))
        (pss_one (ps_set (i := 3) sc_groups.nd rfl (Or.inr rfl) (pe_slice sl_list (pv 3) (po_some (pv 4)) po_none))))
      (pss_one (ps_set (i := 2) sc_groups.nd rfl (Or.inr rfl) (pv 5)))))))
    (pss_one (ps_ret (pe_op op_cat (pv 2) (pv 3))))))), ?_⟩
    repeat walk_at "rd"
    refine ⟨s, rfl, by omega, by omega, fun o no => lc_range (lo := 0) (n := s.toNat) (fun i H' => ∃ xs : List Addr, xs.length = i ∧ Same H H' ∧ H' o = some (.lst (xs.map V.ref)) ∧ AllAre H' xs [1] ∧ o ∉ xs ∧ ∀ b ∈ xs, H b = none) ⟨[], rfl, same_new no, upd_same, fun _ z => (nomatch z), fun z => (nomatch z), fun _ z => (nomatch z)⟩ ?_ ?_⟩
    · rintro i H' hi ⟨xs, lx, sm, eD, ax, nin, fr⟩
      refine ⟨rfl, ?_⟩
      repeat walk_at "rd"
      refine ⟨by show 1 ≤ sizeLine; decide, fun a na => ?_⟩
      rw [← lx]
      exact lc_new (A := [1]) no sm eD ax nin fr na (by omega)
    rintro H1 ⟨xs, lx, s1, eo, ax, _, fx⟩
    repeat walk_at "rd"
    refine ⟨p - s, rfl, by omega, by omega, fun z nz => lc_range (lo := 0) (n := (p - s).toNat) (fun i H' => ∃ xs : List Addr, xs.length = i ∧ Same H1 H' ∧ H' z = some (.lst (xs.map V.ref)) ∧ AllAre H' xs [0] ∧ z ∉ xs ∧ ∀ b ∈ xs, H1 b = none) ⟨[], rfl, same_new nz, upd_same, fun _ z => (nomatch z), fun z => (nomatch z), fun _ z => (nomatch z)⟩ ?_ ?_⟩
    · rintro i H' hi ⟨ys, ly, sm, eD, ay, nin, fr⟩
      refine ⟨rfl, ?_⟩
      repeat walk_at "rd"
      refine ⟨by show 1 ≤ sizeLine; decide, fun a na => ?_⟩
      rw [← ly]
      exact lc_new (A := [0]) nz sm eD ay nin fr na (by omega)
    rintro H2 ⟨ys, ly, s2, ez, ay, _, fy⟩
    repeat walk_at "rd"
    refine ⟨fun k σ H' => ∃ (xs ys : List Addr) (A B : List Int) (o z : Addr) (x4 x5 x6 : Option V), k = xs.length + ys.length ∧ σ = [some (.int s), some (.int p), some (.ref o), some (.ref z), x4, x5, x6] ∧ H' o = some (.lst (xs.map V.ref)) ∧ H' z = some (.lst (ys.map V.ref)) ∧ AllAre H' xs A ∧ AllAre H' ys B ∧ Same H H' ∧
        A.length * xs.length + B.length * ys.length = p.toNat ∧ res A B xs.length ys.length = groupRow s p ∧ xs.length + ys.length ≤ 120 ∧ (∀ b ∈ xs, H b = none) ∧ (∀ b ∈ ys, H b = none),
      ⟨_, xs, ys, [1], [0], o, z, _, _, _, rfl, rfl, s2 _ _ eo, ez, ax.to s2, ay, s1.trans s2, ?_, ?_, by omega, fx, fun b hb => s1.free (fy b hb)⟩, ?_⟩
    · show 1 * xs.length + 1 * ys.length = p.toNat
      omega
    · rw [lx, ly]
      rfl
    · rintro k σ H' ⟨xs, ys, A, B, o, z, x4, x5, x6, rfl, rfl, eo, ez, ax, ay, sm, ln, hr, bd, fx, fy⟩
      have hSo : SqL K H' o (xs.map V.ref) := SqL.of eo
      have hSz : SqL K H' z (ys.map V.ref) := SqL.of ez
      have out : ¬ (0 < xs.length ∧ 0 < ys.length) → ∀ (D : Ends), D.rt = Q → tRet (tOp rCat (tVar 2) (tVar 3)) D [some (.int s), some (.int p), some (.ref o), some (.ref z), x4, x5, x6] H' := by
        intro hno D hD
        repeat walk_at "rd"
        refine rd_cat eo ez (by rw [List.length_map, List.length_map]; omega) fun g ng => ?_
        rw [hD, ← List.map_append]
        have s3 := same_new (o := .lst ((xs ++ ys).map V.ref)) ng
        refine q _ g _ _ (sm.trans s3) upd_same ((told_of ax ay).to s3) (sm.free ng) (fun b hb => (List.mem_append.mp hb).elim (fx b) (fy b)) ?_
        rw [← hr, res_end hno, List.flatten_append]
        rfl
      repeat walk_at "rd"
      rw [List.length_map]
      refine rd_split (fun c => ?_) fun c => ?_
      · repeat walk_at "rd"
        rw [List.length_map]
        refine rd_split (fun c1 => ?_) fun c1 => ?_
        · have m0 : 0 < xs.length := by omega
          have o0 : 0 < ys.length := by omega
          refine ⟨_, fun σ' H' hN => hN, ?_⟩
          have la : A.length ≤ A.length * xs.length := le_mul1 m0
          have lb : B.length ≤ B.length * ys.length := le_mul1 o0
          have pz : p.toNat ≤ 120 := by omega
          repeat walk_at "rd"
          have hm : (if ((ys.map V.ref).length : Int) < ((xs.map V.ref).length : Nat) then ((ys.map V.ref).length : Int) else ((xs.map V.ref).length : Nat)) = ((min xs.length ys.length : Nat) : Int) := by
            rw [List.length_map, List.length_map]
            split <;> omega
          rw [hm]
          have mx : min xs.length ys.length ≤ xs.length := Nat.min_le_left _ _
          have my : min xs.length ys.length ≤ ys.length := Nat.min_le_right _ _
          have mm : min xs.length ys.length = xs.length ∨ min xs.length ys.length = ys.length := by omega
          generalize min xs.length ys.length = m at mx my mm
          refine ⟨(m : Int), rfl, by omega, by omega, ?_⟩
          rw [Int.toNat_natCast]
          refine fun j nj => lc_range (lo := 0) (n := m) (fun i H'' => ∃ js : List Addr, js.length = i ∧ Same H' H'' ∧ H'' j = some (.lst (js.map V.ref)) ∧ AllAre H'' js (A ++ B) ∧ j ∉ js ∧ ∀ b ∈ js, H' b = none) ⟨[], rfl, same_new nj, upd_same, fun _ z => (nomatch z), fun z => (nomatch z), fun _ z => (nomatch z)⟩ ?_ ?_
          · rintro i H3 hi ⟨js, lj, s3, ej, aj, nin, fr⟩
            refine ⟨rfl, ?_⟩
            have ix : i < xs.length := by omega
            have iy : i < ys.length := by omega
            repeat walk_at "rd"
            refine rd_ixL (s3.seq hSo) (at_of (j := i) (v := .ref xs[i]) (by omega) (ref_at ix)) ?_
            repeat walk_at "rd"
            refine rd_ixL (s3.seq hSz) (at_of (j := i) (v := .ref ys[i]) (by omega) (ref_at iy)) ?_
            refine rd_cat (s3 _ _ (ax _ (List.getElem_mem ix))) (s3 _ _ (ay _ (List.getElem_mem iy))) (by rw [List.length_map, List.length_map]; omega) fun a na => ?_
            rw [← List.map_append, ← lj]
            exact lc_new (A := A ++ B) nj s3 ej aj nin fr na (by omega)
          rintro H3 ⟨js, lj, s3, ej, aj, _, fj⟩
          have hSo3 := s3.seq hSo
          have hSz3 := s3.seq hSz
          repeat walk_at "rd"
          rw [List.length_map]
          refine rd_split (fun c2 => ?_) fun c2 => ?_
          · have ey : ys.length = m := by omega
            have k : ys.length < xs.length := by omega
            repeat walk_at "rd"
            refine rd_slL hSo3 fun c nc => ?_
            rw [cut_refs mx]
            have s4 := same_new (o := .lst ((xs.drop m).map V.ref)) nc
            repeat walk_at "rd"
            refine ⟨_, ?_, js, xs.drop m, A ++ B, A, j, c, _, _, _, rfl, rfl, s4 _ _ ej, upd_same, aj.to s4, fun a ha => s4 _ _ (s3 _ _ (ax a (List.mem_of_mem_drop ha))), sm.trans (s3.trans s4), ?_, ?_, ?_, fun b hb => sm.free (fj b hb), fun b hb => fx b (List.mem_of_mem_drop hb)⟩
            · rw [List.length_drop]; omega
            · rw [List.length_append, List.length_drop, lj, ← ey, len_more k]
              exact ln
            · rw [List.length_drop, lj, ← ey, ← res_more o0 k]
              exact hr
            · rw [List.length_drop]; omega
          · have ex : xs.length = m := by omega
            have k : ¬ ys.length < xs.length := by omega
            repeat walk_at "rd"
            refine rd_slL hSz3 fun c nc => ?_
            rw [cut_refs my]
            have s4 := same_new (o := .lst ((ys.drop m).map V.ref)) nc
            repeat walk_at "rd"
            refine ⟨_, ?_, js, ys.drop m, A ++ B, B, j, c, _, _, _, rfl, rfl, s4 _ _ ej, upd_same, aj.to s4, fun a ha => s4 _ _ (s3 _ _ (ay a (List.mem_of_mem_drop ha))), sm.trans (s3.trans s4), ?_, ?_, ?_, fun b hb => sm.free (fj b hb), fun b hb => fy b (List.mem_of_mem_drop hb)⟩
            · rw [List.length_drop]; omega
            · rw [List.length_append, List.length_drop, lj, ← ex, len_less k]
              exact ln
            · rw [List.length_drop, lj, ← ex, ← res_less m0 k]
              exact hr
            · rw [List.length_drop]; omega
        · exact out (fun z => c1 (by omega)) _ rfl
      · exact out (fun z => c (by omega)) _ rfl
/-- a list of ints against the groups told -/
theorem rd_ext {H : Hp} {Q : VK} {l b : Addr} {xs zs : List V} (hx : H l = some (.lst xs)) (hz : H b = some (.lst zs)) (h : xs.length + zs.length ≤ 1000) (q : Q .non (upd H l (.lst (xs ++ zs)))) : rExtend (.ref l) [.ref b] H Q := ⟨l, b, xs, zs, rfl, rfl, hx, hz, Nat.le_of_lt (small1000 h), q⟩
def GT (D : Addr) (H : Hp) (d : Addr) (ns : List Int) : Prop := ∃ (gs : List Addr) (ls : List (List Int)), H d = some (.lst (gs.map V.ref)) ∧ Told H gs ls ∧ ls.flatten = ns ∧ d ≠ D ∧ D ∉ gs
theorem GT.to {D d : Addr} {H H' : Hp} {ns : List Int} (h : GT D H d ns) (s : Same H H') : GT D H' d ns := by
  obtain ⟨gs, ls, e, t, r⟩ := h
  exact ⟨gs, ls, s _ _ e, t.to s, r⟩
theorem GT.put {D d : Addr} {H : Hp} {ns : List Int} {o : HO} (h : GT D H d ns) : GT D (upd H D o) d ns := by
  obtain ⟨gs, ls, e, t, f, n, m⟩ := h
  exact ⟨gs, ls, (upd_ne n).trans e, ⟨t.1, fun i a l x y => (upd_ne fun z => m (by rw [← z]; exact List.mem_of_getElem? x)).trans (t.2 i a l x y)⟩, f, n, m⟩
def sp_galike : Sp := fun vs H Q _ => ∃ (f g : Addr) (gs : List Addr) (ls : List (List Int)), vs = [.ref f, .ref g] ∧ H f = some (.lst (ls.flatten.map V.int)) ∧ H g = some (.lst (gs.map V.ref)) ∧ Told H gs ls ∧ ls.flatten.length ≤ 120 ∧ ∀ H', Same H H' → Q (.bl true) H'
theorem ok_alike (T : Txt K mg) : FnOk P w K mg base CX0 1 T.f_alike T.fd_alike ["_law_found", "_law_groups_here"] sp_galike := by
  refine T.F_alike.ok sc_alike (fun vs H Q E h => ?_) (fun cdv A outer s H vs Q E hr h => ?_)
  · obtain ⟨f, g, gs, ls, rfl, _⟩ := h
    rfl
  · obtain ⟨f, g, gs, ls, rfl, ef, eg, tg, hl, q⟩ := h
    refine ⟨_, (pss_cons (ps_if (pt_not (pt_val (pe_callB call_isi (by rfl) T.m_isinstance (by decide +kernel) (pa_cons (pv 0) (pa_cons (pe_bltn (v := .ty "list") (by rfl) T.m_list (by decide +kernel) rfl) pa_nil)))))
      (pss_one (ps_ret pe_bl))
      pss_nil)
    (pss_cons (ps_set (i := 2) sc_alike.nd rfl (Or.inl rfl) (pe_lst pa_nil))
    (pss_cons (ps_for PassesOwn.never rfl (pi_list (pv 1)) (pg_name (i := 3) sc_alike.nd rfl (Or.inl rfl))
      (pss_one (ps_expr (pe_bm PySem.F.plainAttrs_list PySem.F.slot_list_extend PySem.F.type_list_extend mt_extend (pv 2) (pa_cons (pv 3) pa_nil)))))
    (pss_cons (ps_if (pt_cmpR op_ne (pe_callB call_lenL (by rfl) T.m_len PySem.boot_len (pa_cons (pv 0) pa_nil)) (pe_callB call_lenL (by rfl) T.m_len PySem.boot_len (pa_cons (pv 2) pa_nil)) (nomark _))
      (pss_one (ps_ret pe_bl))
      pss_nil)
    (pss_cons (ps_for PassesOwn.never rfl (pi_range1 (by rfl) T.m_range (pa_cons (pe_callB call_lenL (by rfl) T.m_len PySem.boot_len (pa_cons (pv 2) pa_nil)) pa_nil)) (pg_name (i := 4) sc_alike.nd rfl (Or.inl rfl))
      (pss_one (ps_if (PW.pt (pw_or (pt_not (pt_val (pe_callB call_isi (by rfl) T.m_isinstance (by decide +kernel) (pa_cons (pe_ix ix_list (pv 0) (pv 4) (fun _ _ => rfl)) (pa_cons (pe_bltn (v := .ty "int") (by rfl) T.m_int (by decide +kernel) rfl) pa_nil))))) (pw_or (pt_val (pe_callB call_isi (by rfl) T.m_isinstance (by decide +kernel) (pa_cons (pe_ix ix_list (pv 0) (pv 4) (fun _ _ => rfl)) (pa_cons (pe_bltn (v := .ty "bool") (by rfl) T.m_bool (by decide +kernel) rfl) pa_nil)))) (pw_or1 (pt_cmpR op_ne (pe_ix ix_list (pv 0) (pv 4) (fun _ _ => rfl)) (pe_ix ix_list (pv 2) (pv 4) (fun _ _ => rfl)) (nomark _))))))
        (pss_one (ps_ret pe_bl))
        pss_nil)))
    (pss_one (ps_ret pe_bl))))))), ?_⟩
    repeat walk_at "rd"
    refine ⟨Nat.zero_le _, fun d nd => ?_⟩
    repeat walk_at "rd"
    have flen : ∀ i, (ls.take i).flatten.length ≤ 120 := fun i => by
      have : ls.flatten = (ls.take i).flatten ++ (ls.drop i).flatten := by rw [← List.flatten_append, List.take_append_drop]
      rw [this, List.length_append] at hl
      omega
    refine ⟨g, rfl, ⟨_, SqL.of (same_new nd _ _ eg)⟩, for_list (xs := gs.map V.ref) (fun i σ H' => (∃ x3 x4, σ = [some (.ref f), some (.ref g), some (.ref d), x3, x4]) ∧ Same H H' ∧ H' d = some (.lst ((ls.take i).flatten.map V.int))) ⟨⟨_, _, rfl⟩, same_new nd, upd_same⟩ (fun i σ H' _ h' => h'.2.1.seq (SqL.of eg)) ?_ ?_⟩
    · rintro i x σ H' hx ⟨⟨x3, x4, rfl⟩, sm, ed⟩
      have li : i < gs.length := by
        have := (List.getElem?_eq_some_iff.mp hx).1
        rw [List.length_map] at this
        exact this
      rw [ref_at li] at hx
      cases hx
      have ll : i < ls.length := by have := tg.1; omega
      have gl : ls[i]? = some ls[i] := List.getElem?_eq_getElem ll
      have eb := sm _ _ (tg.2 i gs[i] ls[i] (List.getElem?_eq_getElem li) gl)
      repeat walk_at "rd"
      refine rd_tyL ed ?_
      repeat walk_at "rd"
      have e : (ls.take (i + 1)).flatten = (ls.take i).flatten ++ ls[i] := by
        rw [List.take_add_one, gl, List.flatten_append]
        simp
      have fl := flen (i + 1)
      rw [e, List.length_append] at fl
      refine rd_ext ed eb (by rw [List.length_map, List.length_map]; omega) ?_
      repeat walk_at "rd"
      refine ⟨⟨_, _, rfl⟩, same_put sm nd, ?_⟩
      rw [upd_same, e, List.map_append]
    · rintro σ H' ⟨⟨x3, x4, rfl⟩, sm, ed⟩
      rw [List.length_map, tg.1, List.take_of_length_le (Nat.le_refl _)] at ed
      have hSd : SqL K H' d (ls.flatten.map V.int) := SqL.of ed
      have hSf : SqL K H' f (ls.flatten.map V.int) := SqL.of (sm _ _ ef)
      repeat walk_at "rd"
      refine rd_splitN (fun c => absurd rfl c) fun _ => ?_
      generalize ls.flatten = ns at hl hSd hSf
      repeat walk_at "rd"
      refine ⟨(ns.length : Int), by rw [List.length_map], by omega, by omega, ?_⟩
      rw [Int.toNat_natCast]
      refine for_range (lo := 0) (n := ns.length) (fun i σ H'' => (∃ x3 x4, σ = [some (.ref f), some (.ref g), some (.ref d), x3, x4]) ∧ H' = H'') ⟨⟨_, _, rfl⟩, rfl⟩ ?_ ?_
      · rintro i σ H'' hi ⟨⟨x3, x4, rfl⟩, rfl⟩
        have hat : atI (ns.map V.int) (0 + (i : Int)) = some (.int ns[i]) := at_of (j := i) (by omega) (int_at (List.getElem?_eq_getElem hi))
        repeat walk_at "rd"
        refine rd_ixL hSf hat ?_
        repeat walk_at "rd"
        refine rd_ixL hSf hat ?_
        repeat walk_at "rd"
        refine rd_ixL hSf hat ?_
        repeat walk_at "rd"
        refine rd_ixL hSd hat ?_
        repeat walk_at "rd"
        refine rd_splitN (fun c => absurd rfl c) fun _ => ?_
        repeat walk_at "rd"
        exact ⟨⟨_, _, rfl⟩, rfl⟩
      · rintro σ H'' ⟨⟨x3, x4, rfl⟩, rfl⟩
        repeat walk_at "rd"
        exact q H' sm
def sp_wrong : Sp := fun vs H Q _ => ∃ (way c o : Int), vs = [.int way, .int c, .int o] ∧ 0 ≤ way ∧ way < 5 ∧ ∀ H' t (s p : Int), Same H H' → H' t = some (.tup [.int s, .int p]) → ¬ (Wheel s p ∧ p ≤ 120) → Q (.ref t) H'
theorem ok_wrong (T : Txt K mg) : FnOk P w K mg base CX0 1 T.f_wrong T.fd_wrong ["_law_way", "_law_cell", "_law_other"] sp_wrong := by
  refine T.F_wrong.ok sc_wrong (fun vs H Q E h => ?_) (fun cdv A outer s H vs Q E hr h => ?_)
  · obtain ⟨way, c, o, rfl, _⟩ := h
    rfl
  · obtain ⟨way, c, o, rfl, w0, w1, q⟩ := h
    refine ⟨_, (pss_cons (ps_set (i := 3) sc_wrong.nd rfl (Or.inl rfl) (pe_op op_mod (pv 1) (pe_op op_pow pe_int pe_int)))
    (pss_cons (ps_if (pt_cmpR op_eq (pv 0) pe_int (nomark _))
      (pss_one (ps_ret (pe_tup (pa_cons (pe_op op_mod (pv 2) pe_int) (pa_cons (pe_op op_sub pe_int (pv 3)) pa_nil)))))
      pss_nil)
    (pss_cons (ps_if (pt_cmpR op_eq (pv 0) pe_int (nomark _))
      (pss_one (ps_ret (pe_tup (pa_cons (pe_op op_sub (pe_un un_neg pe_int) (pv 3)) (pa_cons (pe_op op_mod (pv 2) pe_int) pa_nil)))))
      pss_nil)
    (pss_cons (ps_if (pt_cmpR op_eq (pv 0) pe_int (nomark _))
      (pss_one (ps_ret (pe_tup (pa_cons (pe_op op_add (pe_op op_add pe_int (pe_op op_mod (pv 2) pe_int)) (pv 3)) (pa_cons (pe_op op_sub (pe_op op_add (pe_op op_mod (pv 2) pe_int) pe_int) (pe_callTy call_intB (by rfl) T.m_int (by decide +kernel) (pa_cons (pe_cmpR op_eq (pv 3) pe_int (nomark _)) pa_nil))) pa_nil)))))
      pss_nil)
    (pss_cons (ps_if (pt_cmpR op_eq (pv 0) pe_int (nomark _))
      (pss_one (ps_ret (pe_tup (pa_cons (pe_op op_mod (pv 2) (pe_op op_add pe_int (pv 3))) (pa_cons (pe_op op_add pe_int (pv 3)) pa_nil)))))
      pss_nil)
    (pss_one (ps_ret (pe_tup (pa_cons (pe_op op_mod (pv 2) pe_int) (pa_cons pe_int pa_nil)))))))))), ?_⟩
    have e30 : (10 : Int) ^ Int.toNat 30 = 10 ^ 30 := rfl
    repeat walk_at "rd"
    rw [e30]
    have hf0 := Int.emod_nonneg c (show (10 : Int) ^ 30 ≠ 0 by decide)
    generalize c % 10 ^ 30 = far at hf0 ⊢
    have fin : ∀ (s p : Int), ¬ (Wheel s p ∧ p ≤ 120) → 2 ≤ sizeLine ∧ ∀ t, H t = none → Q (.ref t) (upd H t (.tup [.int s, .int p])) := fun s p hb =>
      ⟨by decide, fun t nt => q _ t s p (same_new nt) upd_same hb⟩
    repeat walk_at "rd"
    refine rd_split (fun c0 => ?_) fun c0 => ?_
    · repeat walk_at "rd"
      exact fin _ _ fun z => by have := z.1.1; omega
    repeat walk_at "rd"
    refine rd_split (fun c1 => ?_) fun c1 => ?_
    · repeat walk_at "rd"
      exact fin _ _ fun z => by have := z.1.2.1; omega
    repeat walk_at "rd"
    refine rd_split (fun c2 => ?_) fun c2 => ?_
    · repeat walk_at "rd"
      refine fin _ _ fun z => ?_
      have h1 := z.1.2.2
      by_cases f0 : far = 0
      · rw [decide_eq_true (congrArg V.int f0)] at h1
        have h2 : ¬ (1 + o % 120 + far > o % 120 + 1 - 1) := h1
        omega
      · have h2 : ¬ (1 + o % 120 + far > o % 120 + 1 - if decide (V.int far = V.int 0) = true then 1 else 0) := h1
        split at h2 <;> omega
    repeat walk_at "rd"
    refine rd_split (fun c3 => ?_) fun c3 => ?_
    · repeat walk_at "rd"
      exact fin _ _ fun z => by have := z.2; omega
    · repeat walk_at "rd"
      exact fin _ _ fun z => by have := z.2; omega
def sp_refused : Sp := fun vs H Q _ => ∃ (s p : Int), vs = [.int s, .int p] ∧ ¬ (Wheel s p ∧ p ≤ 120) ∧ ∀ H', Q (.bl true) H'
theorem ok_refused (T : Txt K mg) : FnOk P w K mg base CX0 4 T.f_refused T.fd_refused ["_law_strokes", "_law_places"] sp_refused := by
  refine T.F_refused.ok sc_refused (fun vs H Q E h => ?_) (fun cdv A outer s H vs Q E hr h => ?_)
  · obtain ⟨s, p, rfl, _⟩ := h
    rfl
  · obtain ⟨s, p, rfl, hb, q⟩ := h
    refine ⟨_, (pss_cons (ps_set (i := 2) sc_refused.nd rfl (Or.inl rfl) pe_non)
    (pss_cons (ps_try_held (i := 3) (j := 2) rfl rfl rfl sc_refused.nd rfl rfl rfl (Or.inl rfl) (Or.inr rfl) ⟨rfl, by decide, Or.inl T.gc_BeatError⟩ (by decide) (by decide) (fun W pn xe tk _ => (pss_one (ps_expr (pe_callS (ok_grouped T) hr (by rfl) T.g_grouped T.k_grouped T.b_grouped (fun σ => passAt tk σ) (pa_cons (pv 0) (pa_cons (pv 1) pa_nil)))))))
    (pss_cons (ps_if (PW.pt (pw_or (pt_not (pt_val (pe_callB call_isH (by rfl) T.m_isinstance (by decide +kernel) (pa_cons (pv 2) (pa_cons (pe_glob (v := .ref T.c_NoWheel) (by rfl) T.gc_NoWheel rfl) pa_nil))))) (pw_or1 (pt_not (pt_val (pe_callB call_isH (by rfl) T.m_isinstance (by decide +kernel) (pa_cons (pv 2) (pa_cons (pe_bltn (v := .ty "ValueError") (by rfl) T.m_ValueError (by decide +kernel) rfl) pa_nil))))))))
      (pss_one (ps_ret pe_bl))
      pss_nil)
    (pss_one (ps_ret (pe_not (pe_callB call_isHT (by rfl) T.m_isinstance (by decide +kernel) (pa_cons (pv 2) (pa_cons (pe_tup (pa_cons (pe_glob (v := .ref T.c_NoStroke) (by rfl) T.gc_NoStroke rfl) (pa_cons (pe_glob (v := .ref T.c_NoRow) (by rfl) T.gc_NoRow rfl) (pa_cons (pe_glob (v := .ref T.c_Uneven) (by rfl) T.gc_Uneven rfl) pa_nil)))) pa_nil))))))))), ?_⟩
    repeat walk_at "rd"
    refine ⟨s, p, rfl, fun _ => ⟨T.exm_NoWheel, fun x nx => ?_⟩, fun hw hp => absurd ⟨hw, hp⟩ hb⟩
    have st := stood_new (H := H) (a := x) (D := T.c_NoWheel) nx
    repeat walk_at "rd"
    refine rd_isH st T.h_NoWheel (.own _) T.kit_NoWheel_NoWheel ?_
    repeat walk_at "rd"
    refine rd_isH st T.h_NoWheel (.ty _) T.ve_NoWheel ?_
    repeat walk_at "rd"
    refine ⟨by show 3 ≤ sizeLine; decide, fun t nt => ?_⟩
    repeat walk_at "rd"
    refine rd_isHT (st.to nt) T.h_NoWheel upd_same (.cons (.own _) (.cons (.own _) (.cons (.own _) .nil))) (kitAny_cons T.kit_NoWheel_NoStroke (fun _ => kitAny_cons T.kit_NoWheel_NoRow (fun _ => kitAny_cons T.kit_NoWheel_Uneven (fun _ => kitAny_nil) (fun z => nomatch z)) (fun z => nomatch z)) (fun z => nomatch z)) ?_
    repeat walk_at "rd"
    exact q _
/-! ### the law -/
def sp_law (K : PySem.W.Frag) : Sp := fun vs H Q _ => ∃ (a : Addr) (ns : List Int), vs = [.ref a] ∧ SqL K H a (ns.map V.int) ∧ ns.length ≤ 63 ∧ ∀ H', Q (.bl true) H'
theorem ok_law (T : Txt K mg) {fa : Addr} {fda : FuncData} (FL : Fun K "law" "law" s_law fa fda) : FnOk P w K mg base CX0 5 fa fda ["_law_script"] (sp_law K) := by
  refine FL.ok sc_law (fun vs H Q E h => ?_) (fun cdv A outer s H vs Q E hr h => ?_)
  · obtain ⟨a, ns, rfl, _⟩ := h
    rfl
  · obtain ⟨a, ns, rfl, hS, hlen, q⟩ := h
    refine ⟨_, (pss_cons (ps_set (i := 1) sc_law.nd rfl (Or.inl rfl) (pe_lst pa_nil))
    (pss_cons (ps_for PassesOwn.never rfl (pi_range1 (by rfl) T.m_range (pa_cons pe_int pa_nil)) (pg_name (i := 2) sc_law.nd rfl (Or.inl rfl))
      (pss_cons (ps_set (i := 3) sc_law.nd rfl (Or.inl rfl) (pe_op op_add pe_int (pe_op op_mod (pe_call (ok_cell_at T) (hr.mono (by decide)) (by rfl) T.g_cell_at T.k_cell_at T.b_cell_at .nil pass0 (pa_cons (pv 0) (pa_cons (pe_op op_mul pe_int (pv 2)) pa_nil))) (pe_ix ix_list (pe_lst (pa_cons pe_int (pa_cons pe_int pa_nil))) (pv 2) (fun _ _ => rfl)))))
      (pss_one (ps_expr (pe_bm PySem.F.plainAttrs_list PySem.F.slot_list_append PySem.F.type_list_append mt_append (pv 1) (pa_cons (pe_tup (pa_cons (pe_op op_mod (pe_call (ok_cell_at T) (hr.mono (by decide)) (by rfl) T.g_cell_at T.k_cell_at T.b_cell_at .nil pass0 (pa_cons (pv 0) (pa_cons (pe_op op_add (pe_op op_mul pe_int (pv 2)) pe_int) pa_nil))) (pe_op op_add (pv 3) pe_int)) (pa_cons (pv 3) pa_nil))) pa_nil))))))
    (pss_cons (ps_setLc (i := 4) (own := [("_law_strokes", 7), ("_law_places", 3)]) (g := gTup K 2 (gCons (gName 7) (gCons (gName 3) gNil))) (tt := tYes) rfl sc_law.nd rfl rfl (sw_true rfl rfl rfl (by decide +kernel)) (pi_list (pv 1)) (blkOk_by (N := N_law) (sc := defScope s_law) (by decide +kernel)) (fun _ _ _ _ _ => pg_tup rfl (pgs_cons (pg_name (i := 7) sc_law.nd rfl (Or.inl rfl)) (pgs_cons (pg_name (i := 3) sc_law.nd rfl (Or.inl rfl)) pgs_nil))) (fun _ _ _ _ _ => pts_nil) (fun _ _ _ _ _ => (pe_call (ok_groups T) (hr.mono (by decide)) (by rfl) T.g_groups T.k_groups T.b_groups .nil pass0 (pa_cons (pv 7) (pa_cons (pv 3) pa_nil)))))
    (pss_cons (ps_set (i := 5) sc_law.nd rfl (Or.inl rfl) (pe_call (ok_grouped T) (hr.mono (by decide)) (by rfl) T.g_grouped T.k_grouped T.b_grouped .nil passL (pa_cons (pe_ix ix_tup (pe_ix ix_list (pv 1) pe_int (fun _ _ => rfl)) pe_int (fun _ _ => rfl)) (pa_cons (pe_ix ix_tup (pe_ix ix_list (pv 1) pe_int (fun _ _ => rfl)) pe_int (fun _ _ => rfl)) pa_nil))))
    (pss_cons (ps_set (i := 6) sc_law.nd rfl (Or.inl rfl) (pe_call (ok_grouped T) (hr.mono (by decide)) (by rfl) T.g_grouped T.k_grouped T.b_grouped .nil passL (pa_cons (pe_ix ix_tup (pe_ix ix_list (pv 1) pe_int (fun _ _ => rfl)) pe_int (fun _ _ => rfl)) (pa_cons (pe_ix ix_tup (pe_ix ix_list (pv 1) pe_int (fun _ _ => rfl)) pe_int (fun _ _ => rfl)) pa_nil))))
    (pss_cons (ps_if (PW.pt (pw_or (pt_not (pt_val (pe_call (ok_alike T) (hr.mono (by decide)) (by rfl) T.g_alike T.k_alike T.b_alike .nil pass0 (pa_cons (pv 5) (pa_cons (pe_ix ix_list (pv 4) pe_int (fun _ _ => rfl)) pa_nil))))) (pw_or1 (pt_not (pt_val (pe_call (ok_alike T) (hr.mono (by decide)) (by rfl) T.g_alike T.k_alike T.b_alike .nil pass0 (pa_cons (pv 6) (pa_cons (pe_ix ix_list (pv 4) pe_int (fun _ _ => rfl)) pa_nil))))))))
      (pss_one (ps_ret pe_bl))
      pss_nil)
    (pss_cons (ps_expr (pe_bm PySem.F.plainAttrs_list PySem.F.slot_list_append PySem.F.type_list_append mt_append (pv 5) (pa_cons pe_int pa_nil)))
    (pss_cons (ps_asg (pe_op op_sub pe_int (pe_ix ix_list (pv 5) pe_int (fun _ _ => rfl))) (pg_sub (pv 5) pe_int set_list))
    (pss_cons (ps_if (PW.pt (pw_or (pt_not (pt_val (pe_call (ok_alike T) (hr.mono (by decide)) (by rfl) T.g_alike T.k_alike T.b_alike .nil pass0 (pa_cons (pv 6) (pa_cons (pe_ix ix_list (pv 4) pe_int (fun _ _ => rfl)) pa_nil))))) (pw_or1 (pt_not (pt_val (pe_call (ok_alike T) (hr.mono (by decide)) (by rfl) T.g_alike T.k_alike T.b_alike .nil pass0 (pa_cons (pe_call (ok_grouped T) (hr.mono (by decide)) (by rfl) T.g_grouped T.k_grouped T.b_grouped .nil passL (pa_cons (pe_ix ix_tup (pe_ix ix_list (pv 1) pe_int (fun _ _ => rfl)) pe_int (fun _ _ => rfl)) (pa_cons (pe_ix ix_tup (pe_ix ix_list (pv 1) pe_int (fun _ _ => rfl)) pe_int (fun _ _ => rfl)) pa_nil))) (pa_cons (pe_ix ix_list (pv 4) pe_int (fun _ _ => rfl)) pa_nil))))))))
      (pss_one (ps_ret pe_bl))
      pss_nil)
    (pss_cons (ps_asg (pe_call (ok_wrong T) (hr.mono (by decide)) (by rfl) T.g_wrong T.k_wrong T.b_wrong .nil pass0 (pa_cons (pe_op op_mod (pe_call (ok_cell_at T) (hr.mono (by decide)) (by rfl) T.g_cell_at T.k_cell_at T.b_cell_at .nil pass0 (pa_cons (pv 0) (pa_cons pe_int pa_nil))) pe_int) (pa_cons (pe_call (ok_cell_at T) (hr.mono (by decide)) (by rfl) T.g_cell_at T.k_cell_at T.b_cell_at .nil pass0 (pa_cons (pv 0) (pa_cons pe_int pa_nil))) (pa_cons (pe_call (ok_cell_at T) (hr.mono (by decide)) (by rfl) T.g_cell_at T.k_cell_at T.b_cell_at .nil pass0 (pa_cons (pv 0) (pa_cons pe_int pa_nil))) pa_nil)))) (pg_tup rfl (pgs_cons (pg_name (i := 7) sc_law.nd rfl (Or.inl rfl)) (pgs_cons (pg_name (i := 3) sc_law.nd rfl (Or.inl rfl)) pgs_nil))))
    (pss_one (ps_ret (pe_call (ok_refused T) hr (by rfl) T.g_refused T.k_refused T.b_refused .nil pass0 (pa_cons (pv 7) (pa_cons (pv 3) pa_nil))))))))))))))), ?_⟩
    repeat walk_at "rd"
    refine ⟨Nat.zero_le _, fun wl nwl => ?_⟩
    repeat walk_at "rd"
    refine ⟨2, rfl, by omega, by omega, ?_⟩
    refine for_range (lo := 0) (n := 2) (fun i σ H' => (∃ x2 x3, σ = [some (.ref a), some (.ref wl), x2, x3, none, none, none, none]) ∧ Same H H' ∧ ∃ ts : List Addr, ts.length = i ∧ H' wl = some (.lst (ts.map V.ref)) ∧ wl ∉ ts ∧ ∀ t ∈ ts, ∃ s p : Int, H' t = some (.tup [.int s, .int p]) ∧ Wheel s p ∧ p ≤ 120)
      ⟨⟨_, _, rfl⟩, same_new nwl, [], rfl, upd_same, fun z => (nomatch z), fun _ z => (nomatch z)⟩ ?_ ?_
    · rintro i σ H' hi ⟨⟨x2, x3, rfl⟩, sm, ts, lt, ewl, wnin, wt⟩
      have hS' := sm.seq hS
      repeat walk_at "rd"
      have e1 : (2 : Int) * (0 + (i : Int)) = ((2 * i : Nat) : Int) := by omega
      have e2 : (2 : Int) * (0 + (i : Int)) + 1 = ((2 * i + 1 : Nat) : Int) := by omega
      rw [e1]
      refine ⟨a, ns, 2 * i, rfl, hS', ?_⟩
      repeat walk_at "rd"
      refine ⟨by show 2 ≤ sizeLine; decide, fun c nc => ?_⟩
      obtain ⟨m, hm, m0, m1⟩ : ∃ m : Int, atI [V.int 120, V.int 40] (0 + (i : Int)) = some (.int m) ∧ 0 < m ∧ m ≤ 120 := by
        rcases (show i = 0 ∨ i = 1 by omega) with z | z <;> rw [z]
        · exact ⟨120, atI_nat (j := 0) rfl, by decide, by decide⟩
        · exact ⟨40, atI_nat (j := 1) rfl, by decide, by decide⟩
      repeat walk_at "rd"
      refine rd_ixL (SqL.of upd_same) hm ?_
      have s1 := same_to (o := .lst [.int 120, .int 40]) sm nc
      have ewl1 := same_new (o := .lst [.int 120, .int 40]) nc _ _ ewl
      have wt1 : ∀ t ∈ ts, ∃ s p : Int, upd H' c (.lst [.int 120, .int 40]) t = some (.tup [.int s, .int p]) ∧ Wheel s p ∧ p ≤ 120 := fun t ht => by
        obtain ⟨s, p, e, r⟩ := wt t ht
        exact ⟨s, p, same_new nc _ _ e, r⟩
      have nwlH := nwl
      generalize upd H' c (.lst [.int 120, .int 40]) = H1 at s1 ewl1 wt1 ⊢
      repeat walk_at "rd"
      have hp0 := Int.emod_nonneg (cell ns (2 * i)) (show m ≠ 0 by omega)
      have hp1 := Int.emod_lt_of_pos (cell ns (2 * i)) m0
      have hp : 1 ≤ 1 + cell ns (2 * i) % m ∧ 1 + cell ns (2 * i) % m ≤ 120 := by omega
      generalize 1 + cell ns (2 * i) % m = p at hp ⊢
      refine rd_tyL ewl1 ?_
      repeat walk_at "rd"
      rw [e2]
      refine ⟨a, ns, 2 * i + 1, rfl, s1.seq hS, ?_⟩
      repeat walk_at "rd"
      have hs0 := Int.emod_nonneg (cell ns (2 * i + 1)) (show p + 1 ≠ 0 by omega)
      have hs1 := Int.emod_lt_of_pos (cell ns (2 * i + 1)) (show 0 < p + 1 by omega)
      generalize cell ns (2 * i + 1) % (p + 1) = s at hs0 hs1 ⊢
      refine ⟨by show 2 ≤ sizeLine; decide, fun t nt => ?_⟩
      repeat walk_at "rd"
      have wt' : wl ≠ t := ne_of_none ewl1 nt
      refine rd_app ((upd_ne wt').trans ewl1) (by rw [List.length_map]; omega) ?_
      repeat walk_at "rd"
      refine ⟨⟨_, _, rfl⟩, same_put (same_to s1 nt) nwlH, ts ++ [t], by rw [List.length_append, lt]; rfl, by rw [upd_same, List.map_append]; rfl, fun hm => ?_, fun b hb => ?_⟩
      · rcases List.mem_append.mp hm with m | m
        · exact wnin m
        · exact wt' (List.mem_singleton.mp m)
      · rcases List.mem_append.mp hb with m | m
        · obtain ⟨s', p', e, r⟩ := wt1 b m
          exact ⟨s', p', (upd_ne fun z => wnin (by rw [← z]; exact m)).trans (same_new nt _ _ e), r⟩
        · rw [List.mem_singleton.mp m]
          exact ⟨s, p, (upd_ne (Ne.symm wt')).trans upd_same, ⟨by omega, by omega, by omega⟩, hp.2⟩
    rintro σ H1 ⟨⟨x2, x3, rfl⟩, s1, ts, lt, ewl, _, wt⟩
    obtain ⟨t0, t1, rfl⟩ : ∃ t0 t1, ts = [t0, t1] := by
      match ts, lt with
      | [t0, t1], _ => exact ⟨t0, t1, rfl⟩
    obtain ⟨s0, p0, et0, hw0, hp0⟩ := wt t0 (by simp)
    obtain ⟨sB, pB, et1, hw1, hp1⟩ := wt t1 (by simp)
    clear wt
    repeat walk_at "rd"
    refine ⟨wl, rfl, ⟨_, SqL.of ewl⟩, fun D nD => lc_list (xs := [t0, t1].map V.ref) (fun i H' => Same H1 H' ∧ ∃ ds : List Addr, ds.length = i ∧ H' D = some (.lst (ds.map V.ref)) ∧ ∀ (j : Nat) (d : Addr) (st : Int × Int), ds[j]? = some d → [(s0, p0), (sB, pB)][j]? = some st → GT D H' d (groupRow st.1 st.2))
      ⟨same_new nD, [], rfl, upd_same, fun j d st h => (nomatch h)⟩ (fun i H' _ h' => SqL.of (h'.1 _ _ ewl)) ?_ ?_⟩
    · rintro i y H' hi ⟨sm, ds, ld, eD, gt⟩
      obtain ⟨t, s', p', rfl, et, hw, hp, hst⟩ : ∃ t s' p', y = V.ref t ∧ H1 t = some (HO.tup [V.int s', V.int p']) ∧ Wheel s' p' ∧ p' ≤ 120 ∧ [(s0, p0), (sB, pB)][i]? = some (s', p') := by
        rcases i with _ | _ | i
        · cases hi
          exact ⟨t0, s0, p0, rfl, et0, hw0, hp0, rfl⟩
        · cases hi
          exact ⟨t1, sB, pB, rfl, et1, hw1, hp1, rfl⟩
        · cases hi
      have li : i < 2 := (List.getElem?_eq_some_iff.mp hst).1
      have et' := sm _ _ et
      repeat walk_at "rd"
      refine ⟨rfl, ?_⟩
      repeat walk_at "rd"
      refine ⟨s', p', rfl, by have := hw.2.1; omega, by have := hw.2.2; omega, hp, fun H2 g gs ls s2 eg tg ng ngs fl => ?_⟩
      have eD2 := s2 _ _ eD
      have Dg : g ≠ D := Ne.symm (ne_of_none eD ng)
      have Dgs : D ∉ gs := fun hm => ne_of_none eD (ngs D hm) rfl
      refine ⟨_, eD2, small1000 (by rw [List.length_map]; omega), same_put (sm.trans s2) nD, ds ++ [g], by rw [List.length_append, ld]; rfl, by rw [upd_same, List.map_append]; rfl, fun j d st hd hst' => ?_⟩
      by_cases c : j < ds.length
      · rw [List.getElem?_append_left c] at hd
        exact ((gt j d st hd hst').to s2).put
      · have hj : j = ds.length := by
          have := (List.getElem?_eq_some_iff.mp hd).1
          rw [List.length_append] at this
          have : j < ds.length + 1 := this
          omega
        rw [hj, List.getElem?_append_right (Nat.le_refl _), Nat.sub_self] at hd
        cases hd
        rw [hj, ld, hst] at hst'
        cases hst'
        exact GT.put ⟨gs, ls, eg, tg, fl, Dg, Dgs⟩
    rintro H2 ⟨s2, ds, ld, eD, gt⟩
    obtain ⟨d0, d1, rfl⟩ : ∃ d0 d1, ds = [d0, d1] := by
      match ds, ld with
      | [d0, d1], _ => exact ⟨d0, d1, rfl⟩
    obtain ⟨gs0, ls0, eg0, tg0, fl0, _⟩ := gt 0 d0 (s0, p0) rfl rfl
    obtain ⟨gs1, ls1, eg1, tg1, fl1, _⟩ := gt 1 d1 (sB, pB) rfl rfl
    clear gt
    have fl0 : ls0.flatten = groupRow s0 p0 := fl0
    have fl1 : ls1.flatten = groupRow sB pB := fl1
    have ewl := s2 _ _ ewl
    have et0 := s2 _ _ et0
    have et1 := s2 _ _ et1
    have hSa := (s1.trans s2).seq hS
    have gl0 := group_len (s := s0) (p := p0) (by have := hw0.2.1; omega) (by have := hw0.2.2; omega)
    have gl1 := group_len (s := sB) (p := pB) (by have := hw1.2.1; omega) (by have := hw1.2.2; omega)
    have n0 : 1 ≤ p0 := by have := hw0.1; omega
    have w0 : atI ([t0, t1].map V.ref) 0 = some (.ref t0) := atI_nat (j := 0) rfl
    have w1 : atI ([t0, t1].map V.ref) 1 = some (.ref t1) := atI_nat (j := 1) rfl
    have v0 : atI ([d0, d1].map V.ref) 0 = some (.ref d0) := atI_nat (j := 0) rfl
    have v1 : atI ([d0, d1].map V.ref) 1 = some (.ref d1) := atI_nat (j := 1) rfl
    have u0 : ∀ (x y : V), atI [x, y] 0 = some x := fun x y => atI_nat (j := 0) rfl
    have u1 : ∀ (x y : V), atI [x, y] 1 = some y := fun x y => atI_nat (j := 1) rfl
    repeat walk_at "rd"
    refine rd_ixL (SqL.of ewl) w0 ?_
    repeat walk_at "rd"
    refine rd_ixT (SqT.of et0) (u0 _ _) ?_
    repeat walk_at "rd"
    refine rd_ixL (SqL.of ewl) w0 ?_
    repeat walk_at "rd"
    refine rd_ixT (SqT.of et0) (u1 _ _) ?_
    repeat walk_at "rd"
    refine ⟨s0, p0, rfl, fun z => absurd ⟨hw0, hp0⟩ z, fun _ _ H3 r s3 nr er => ?_⟩
    have ewl3 := s3 _ _ ewl
    have et13 := s3 _ _ et1
    repeat walk_at "rd"
    refine rd_ixL (SqL.of ewl3) w1 ?_
    repeat walk_at "rd"
    refine rd_ixT (SqT.of et13) (u0 _ _) ?_
    repeat walk_at "rd"
    refine rd_ixL (SqL.of ewl3) w1 ?_
    repeat walk_at "rd"
    refine rd_ixT (SqT.of et13) (u1 _ _) ?_
    repeat walk_at "rd"
    refine ⟨sB, pB, rfl, fun z => absurd ⟨hw1, hp1⟩ z, fun _ _ H4 ro s4 nro ero => ?_⟩
    have s24 := s3.trans s4
    have rro : r ≠ ro := ne_of_none er nro
    have er4 := s4 _ _ er
    repeat walk_at "rd"
    refine rd_ixL (SqL.of (s24 _ _ eD)) v0 ?_
    repeat walk_at "rd"
    refine ⟨r, d0, gs0, ls0, rfl, by rw [fl0]; exact er4, s24 _ _ eg0, tg0.to s24, by rw [fl0]; omega, fun H5 s5 => ?_⟩
    have s25 := s24.trans s5
    repeat walk_at "rd"
    refine rd_ixL (SqL.of (s25 _ _ eD)) v1 ?_
    repeat walk_at "rd"
    refine ⟨ro, d1, gs1, ls1, rfl, by rw [fl1]; exact s5 _ _ ero, s25 _ _ eg1, tg1.to s25, by rw [fl1]; omega, fun H6 s6 => ?_⟩
    have s26 := s25.trans s6
    have er6 := s6 _ _ (s5 _ _ er4)
    have ero6 := s6 _ _ (s5 _ _ ero)
    repeat walk_at "rd"
    refine rd_tyL er6 ?_
    repeat walk_at "rd"
    refine rd_app er6 (by rw [List.length_map]; omega) ?_
    have s27 := same_put (o := .lst ((groupRow s0 p0).map V.int ++ [.int 1])) s26 nr
    have er7 : upd H6 r (.lst ((groupRow s0 p0).map V.int ++ [.int 1])) r = some (.lst ((groupRow s0 p0 ++ [1]).map V.int)) := by
      rw [upd_same, List.map_append]
      rfl
    have ero7 := (upd_ne (o := .lst ((groupRow s0 p0).map V.int ++ [.int 1])) (Ne.symm rro)).trans ero6
    generalize upd H6 r (.lst ((groupRow s0 p0).map V.int ++ [.int 1])) = H7 at s27 er7 ero7 ⊢
    obtain ⟨f0, fr, hfr⟩ : ∃ f0 fr, groupRow s0 p0 ++ [1] = f0 :: fr := by
      cases e : groupRow s0 p0 with
      | nil => exact ⟨1, [], rfl⟩
      | cons x y => exact ⟨x, y ++ [1], rfl⟩
    rw [hfr] at er7
    repeat walk_at "rd"
    refine rd_ixL (SqL.of er7) (v := .int f0) (atI_nat (j := 0) rfl) ?_
    repeat walk_at "rd"
    refine rd_set er7 (n := 0) (by rw [List.map_cons, List.length_cons]; unfold ixN; rw [if_pos (by decide), if_pos (by omega)]; rfl) ?_
    generalize ((f0 :: fr).map V.int).set 0 (.int (1 - f0)) = any6
    have s28 := same_put (o := .lst any6) s27 nr
    have ero8 := (upd_ne (o := .lst any6) (Ne.symm rro)).trans ero7
    generalize upd H7 r (.lst any6) = H8 at s28 ero8 ⊢
    repeat walk_at "rd"
    refine rd_ixL (SqL.of (s28 _ _ eD)) v1 ?_
    repeat walk_at "rd"
    refine ⟨ro, d1, gs1, ls1, rfl, by rw [fl1]; exact ero8, s28 _ _ eg1, tg1.to s28, by rw [fl1]; omega, fun H9 s9 => ?_⟩
    have s29 := s28.trans s9
    repeat walk_at "rd"
    refine rd_ixL (SqL.of (s29 _ _ ewl)) w0 ?_
    repeat walk_at "rd"
    refine rd_ixT (SqT.of (s29 _ _ et0)) (u0 _ _) ?_
    repeat walk_at "rd"
    refine rd_ixL (SqL.of (s29 _ _ ewl)) w0 ?_
    repeat walk_at "rd"
    refine rd_ixT (SqT.of (s29 _ _ et0)) (u1 _ _) ?_
    repeat walk_at "rd"
    refine ⟨s0, p0, rfl, fun z => absurd ⟨hw0, hp0⟩ z, fun _ _ H10 r2 s10 nr2 er2 => ?_⟩
    have s210 := s29.trans s10
    repeat walk_at "rd"
    refine rd_ixL (SqL.of (s210 _ _ eD)) v0 ?_
    repeat walk_at "rd"
    refine ⟨r2, d0, gs0, ls0, rfl, by rw [fl0]; exact er2, s210 _ _ eg0, tg0.to s210, by rw [fl0]; omega, fun H11 s11 => ?_⟩
    have hS11 := (s210.trans s11).seq hSa
    repeat walk_at "rd"
    refine ⟨a, ns, 4, rfl, hS11, ?_⟩
    repeat walk_at "rd"
    refine ⟨a, ns, 5, rfl, hS11, ?_⟩
    repeat walk_at "rd"
    refine ⟨a, ns, 6, rfl, hS11, ?_⟩
    repeat walk_at "rd"
    refine ⟨_, _, _, rfl, Int.emod_nonneg _ (by decide), Int.emod_lt_of_pos _ (by decide), fun H12 t s' p' s12 et hb => ?_⟩
    repeat walk_at "rd"
    refine ⟨s', p', rfl, hb, fun H13 => ?_⟩
    exact q H13
end
/-! ### what the top has written -/
theorem all_mk {l : PySem.W.OpenLaw} {w : World} {K : PySem.W.Frag} {h : Heap} {mg : Str → Option Value} {fa : Addr} (X : K.In h) (G : h.Ns mainGlobals mg) (hfa : mg "law" = some (.ref fa))
    {f1 : Addr} {od1 an1 : Option Addr} {sl1 : Array (Option Value)} {oc1 kV1 dc1 pm1 cd1 ct1 : Value}
    {f2 : Addr} {od2 an2 : Option Addr} {sl2 : Array (Option Value)} {oc2 kV2 dc2 pm2 cd2 ct2 : Value}
    {f3 : Addr} {od3 an3 : Option Addr} {sl3 : Array (Option Value)} {oc3 kV3 dc3 pm3 cd3 ct3 : Value}
    {f4 : Addr} {od4 an4 : Option Addr} {sl4 : Array (Option Value)} {oc4 kV4 dc4 pm4 cd4 ct4 : Value}
    {f5 : Addr} {od5 an5 : Option Addr} {sl5 : Array (Option Value)} {oc5 kV5 dc5 pm5 cd5 ct5 : Value}
    {f6 : Addr} {od6 an6 : Option Addr} {sl6 : Array (Option Value)} {oc6 kV6 dc6 pm6 cd6 ct6 : Value}
    {f7 : Addr} {od7 an7 : Option Addr} {sl7 : Array (Option Value)} {oc7 kV7 dc7 pm7 cd7 ct7 : Value}
    {f8 : Addr} {od8 an8 : Option Addr} {sl8 : Array (Option Value)} {oc8 kV8 dc8 pm8 cd8 ct8 : Value}
    {f9 : Addr} {od9 an9 : Option Addr} {sl9 : Array (Option Value)} {oc9 kV9 dc9 pm9 cd9 ct9 : Value}
    {tk_LONGEST : Tok}
    {C_BeatError : Addr}
    {C_NoWheel : Addr}
    {C_NoStroke : Addr}
    {C_NoRow : Addr}
    {C_Uneven : Addr}
    (a1 : PySem.W.nsIn K mainGlobals "look_at_wheel" = some (some (.ref f1)))
    (l1 : K.lookup f1 = some ⟨oc1, od1, .func (PySem.W.fnOf "look_at_wheel" "look_at_wheel" (defArgs s_look_at_wheel) (defBody s_look_at_wheel) (defScope s_look_at_wheel) .none kV1 dc1 pm1 an1 cd1 ct1), sl1⟩)
    (c1 : PySem.W.codeIn K cd1 "look_at_wheel" = true)
    (k1 : PySem.W.keepIn K (.ref f1) = true)
    (a2 : PySem.W.nsIn K mainGlobals "look_at_row" = some (some (.ref f2)))
    (l2 : K.lookup f2 = some ⟨oc2, od2, .func (PySem.W.fnOf "look_at_row" "look_at_row" (defArgs s_look_at_row) (defBody s_look_at_row) (defScope s_look_at_row) .none kV2 dc2 pm2 an2 cd2 ct2), sl2⟩)
    (c2 : PySem.W.codeIn K cd2 "look_at_row" = true)
    (k2 : PySem.W.keepIn K (.ref f2) = true)
    (a3 : PySem.W.nsIn K mainGlobals "grouped" = some (some (.ref f3)))
    (l3 : K.lookup f3 = some ⟨oc3, od3, .func (PySem.W.fnOf "grouped" "grouped" (defArgs s_grouped) (defBody s_grouped) (defScope s_grouped) .none kV3 dc3 pm3 an3 cd3 ct3), sl3⟩)
    (c3 : PySem.W.codeIn K cd3 "grouped" = true)
    (k3 : PySem.W.keepIn K (.ref f3) = true)
    (a4 : PySem.W.nsIn K mainGlobals "_law_cell_at" = some (some (.ref f4)))
    (l4 : K.lookup f4 = some ⟨oc4, od4, .func (PySem.W.fnOf "_law_cell_at" "_law_cell_at" (defArgs s_cell_at) (defBody s_cell_at) (defScope s_cell_at) .none kV4 dc4 pm4 an4 cd4 ct4), sl4⟩)
    (c4 : PySem.W.codeIn K cd4 "_law_cell_at" = true)
    (k4 : PySem.W.keepIn K (.ref f4) = true)
    (a5 : PySem.W.nsIn K mainGlobals "_law_groups" = some (some (.ref f5)))
    (l5 : K.lookup f5 = some ⟨oc5, od5, .func (PySem.W.fnOf "_law_groups" "_law_groups" (defArgs s_groups) (defBody s_groups) (defScope s_groups) .none kV5 dc5 pm5 an5 cd5 ct5), sl5⟩)
    (c5 : PySem.W.codeIn K cd5 "_law_groups" = true)
    (k5 : PySem.W.keepIn K (.ref f5) = true)
    (a6 : PySem.W.nsIn K mainGlobals "_law_alike" = some (some (.ref f6)))
    (l6 : K.lookup f6 = some ⟨oc6, od6, .func (PySem.W.fnOf "_law_alike" "_law_alike" (defArgs s_alike) (defBody s_alike) (defScope s_alike) .none kV6 dc6 pm6 an6 cd6 ct6), sl6⟩)
    (c6 : PySem.W.codeIn K cd6 "_law_alike" = true)
    (k6 : PySem.W.keepIn K (.ref f6) = true)
    (a7 : PySem.W.nsIn K mainGlobals "_law_wrong" = some (some (.ref f7)))
    (l7 : K.lookup f7 = some ⟨oc7, od7, .func (PySem.W.fnOf "_law_wrong" "_law_wrong" (defArgs s_wrong) (defBody s_wrong) (defScope s_wrong) .none kV7 dc7 pm7 an7 cd7 ct7), sl7⟩)
    (c7 : PySem.W.codeIn K cd7 "_law_wrong" = true)
    (k7 : PySem.W.keepIn K (.ref f7) = true)
    (a8 : PySem.W.nsIn K mainGlobals "_law_refused" = some (some (.ref f8)))
    (l8 : K.lookup f8 = some ⟨oc8, od8, .func (PySem.W.fnOf "_law_refused" "_law_refused" (defArgs s_refused) (defBody s_refused) (defScope s_refused) .none kV8 dc8 pm8 an8 cd8 ct8), sl8⟩)
    (c8 : PySem.W.codeIn K cd8 "_law_refused" = true)
    (k8 : PySem.W.keepIn K (.ref f8) = true)
    (a9 : PySem.W.nsIn K mainGlobals "law" = some (some (.ref f9)))
    (l9 : K.lookup f9 = some ⟨oc9, od9, .func (PySem.W.fnOf "law" "law" (defArgs s_law) (defBody s_law) (defScope s_law) .none kV9 dc9 pm9 an9 cd9 ct9), sl9⟩)
    (c9 : PySem.W.codeIn K cd9 "law" = true)
    (k9 : PySem.W.keepIn K (.ref f9) = true)
    (z_len : PySem.W.nsIn K mainGlobals "len" = some none)
    (z_range : PySem.W.nsIn K mainGlobals "range" = some none)
    (z_min : PySem.W.nsIn K mainGlobals "min" = some none)
    (z_isinstance : PySem.W.nsIn K mainGlobals "isinstance" = some none)
    (z_bool : PySem.W.nsIn K mainGlobals "bool" = some none)
    (z_int : PySem.W.nsIn K mainGlobals "int" = some none)
    (z_list : PySem.W.nsIn K mainGlobals "list" = some none)
    (z_ValueError : PySem.W.nsIn K mainGlobals "ValueError" = some none)
    (v_LONGEST : PySem.W.nsIn K mainGlobals "LONGEST" = some (some (.int 120 tk_LONGEST)))
    (aC_BeatError : PySem.W.nsIn K mainGlobals "BeatError" = some (some (.ref C_BeatError)))
    (iC_BeatError : PySem.W.isClsIn K C_BeatError = true)
    (tC_BeatError : PySem.W.typeIn K (.ref C_BeatError) = some (.type "type"))
    (bC_BeatError : PySem.W.subIn K (.ref C_BeatError) (.type "BaseException") = some true)
    (aC_NoWheel : PySem.W.nsIn K mainGlobals "NoWheel" = some (some (.ref C_NoWheel)))
    (iC_NoWheel : PySem.W.isClsIn K C_NoWheel = true)
    (tC_NoWheel : PySem.W.typeIn K (.ref C_NoWheel) = some (.type "type"))
    (bC_NoWheel : PySem.W.subIn K (.ref C_NoWheel) (.type "BaseException") = some true)
    (aC_NoStroke : PySem.W.nsIn K mainGlobals "NoStroke" = some (some (.ref C_NoStroke)))
    (iC_NoStroke : PySem.W.isClsIn K C_NoStroke = true)
    (tC_NoStroke : PySem.W.typeIn K (.ref C_NoStroke) = some (.type "type"))
    (bC_NoStroke : PySem.W.subIn K (.ref C_NoStroke) (.type "BaseException") = some true)
    (aC_NoRow : PySem.W.nsIn K mainGlobals "NoRow" = some (some (.ref C_NoRow)))
    (iC_NoRow : PySem.W.isClsIn K C_NoRow = true)
    (tC_NoRow : PySem.W.typeIn K (.ref C_NoRow) = some (.type "type"))
    (bC_NoRow : PySem.W.subIn K (.ref C_NoRow) (.type "BaseException") = some true)
    (aC_Uneven : PySem.W.nsIn K mainGlobals "Uneven" = some (some (.ref C_Uneven)))
    (iC_Uneven : PySem.W.isClsIn K C_Uneven = true)
    (tC_Uneven : PySem.W.typeIn K (.ref C_Uneven) = some (.type "type"))
    (bC_Uneven : PySem.W.subIn K (.ref C_Uneven) (.type "BaseException") = some true)
    (x_NoWheel : PySem.W.excIn K C_NoWheel [.type "ValueError", .type "Exception", .type "BaseException", .type "object"] "ValueError.__new__" = true)
    (kc_NoWheel : PySem.W.keepIn K (.ref C_NoWheel) = true)
    (sub_NoWheel : PySem.W.subIn K (.ref C_NoWheel) (.type "BaseException") = some true)
    (ty_NoWheel : PySem.W.typeIn K (.ref C_NoWheel) = some (.type "type"))
    (hn0 : PySem.W.specialIn K (.builtin "object.__class__") "__get__" = some (some (.builtin "getset_descriptor.__get__")))
    (ht0 : PySem.W.takesIn K (.builtin "object.__class__") = some true)
    (hc_NoWheel : PySem.W.isClsIn K C_NoWheel = true)
    (hg_NoWheel : PySem.W.findIn K (.ref C_NoWheel) "__getattribute__" = some (some (.builtin "BaseException.__getattribute__")))
    (hk_NoWheel : PySem.W.findIn K (.ref C_NoWheel) "__getattr__" = some none)
    (hs_NoWheel : PySem.W.subIn K (.ref C_NoWheel) (.type "BaseException") = some true)
    (ha_NoWheel : PySem.W.findIn K (.ref C_NoWheel) "__class__" = some (some (.builtin "object.__class__")))
    (hm_NoWheel : PySem.W.mroIn K C_NoWheel (.type "object") = some true)
    (hd_NoWheel : PySem.W.hasDictIn K C_NoWheel = true)
    (sVE_NoWheel : PySem.W.subIn K (.ref C_NoWheel) (.type "ValueError") = some true)
    (s_NoWheel_BeatError : PySem.W.subIn K (.ref C_NoWheel) (.ref C_BeatError) = some true)
    (n_NoWheel_BeatError : (C_NoWheel == C_BeatError) = false)
    (s_NoWheel_NoStroke : PySem.W.subIn K (.ref C_NoWheel) (.ref C_NoStroke) = some false)
    (n_NoWheel_NoStroke : (C_NoWheel == C_NoStroke) = false)
    (s_NoWheel_NoRow : PySem.W.subIn K (.ref C_NoWheel) (.ref C_NoRow) = some false)
    (n_NoWheel_NoRow : (C_NoWheel == C_NoRow) = false)
    (s_NoWheel_Uneven : PySem.W.subIn K (.ref C_NoWheel) (.ref C_Uneven) = some false)
    (n_NoWheel_Uneven : (C_NoWheel == C_Uneven) = false)
    : ∃ fd : FuncData, (∀ (s : Shared) (v : Value), BindsTo s fd ⟨[v], []⟩ [("_law_script", v)]) ∧ ∀ base : Heap, K.In base → base.Ns mainGlobals mg → FnOk l.prog w K mg base CX0 5 fa fd ["_law_script"] (sp_law K) := by
  have e := hfa.symm.trans (PySem.W.mg_of X G a9)
  cases e
  have F1 := fun_mk (st := s_look_at_wheel) l1 c1 k1
  have F2 := fun_mk (st := s_look_at_row) l2 c2 k2
  have F3 := fun_mk (st := s_grouped) l3 c3 k3
  have F4 := fun_mk (st := s_cell_at) l4 c4 k4
  have F5 := fun_mk (st := s_groups) l5 c5 k5
  have F6 := fun_mk (st := s_alike) l6 c6 k6
  have F7 := fun_mk (st := s_wrong) l7 c7 k7
  have F8 := fun_mk (st := s_refused) l8 c8 k8
  have F9 := fun_mk (st := s_law) l9 c9 k9
  have T : Txt K mg := {
    f_look_at_wheel := f1, fd_look_at_wheel := _, F_look_at_wheel := F1, k_look_at_wheel := k1, g_look_at_wheel := PySem.W.mg_of X G a1, b_look_at_wheel := F1.binds (ps := ["strokes", "places"]) (fun _ _ _ _ _ _ us hl => match us, hl with | [_, _], _ => rfl),
    f_look_at_row := f2, fd_look_at_row := _, F_look_at_row := F2, k_look_at_row := k2, g_look_at_row := PySem.W.mg_of X G a2, b_look_at_row := F2.binds (ps := ["strokes", "places"]) (fun _ _ _ _ _ _ us hl => match us, hl with | [_, _], _ => rfl),
    f_grouped := f3, fd_grouped := _, F_grouped := F3, k_grouped := k3, g_grouped := PySem.W.mg_of X G a3, b_grouped := F3.binds (ps := ["strokes", "places"]) (fun _ _ _ _ _ _ us hl => match us, hl with | [_, _], _ => rfl),
    f_cell_at := f4, fd_cell_at := _, F_cell_at := F4, k_cell_at := k4, g_cell_at := PySem.W.mg_of X G a4, b_cell_at := F4.binds (ps := ["_law_script", "_law_k"]) (fun _ _ _ _ _ _ us hl => match us, hl with | [_, _], _ => rfl),
    f_groups := f5, fd_groups := _, F_groups := F5, k_groups := k5, g_groups := PySem.W.mg_of X G a5, b_groups := F5.binds (ps := ["_law_strokes", "_law_places"]) (fun _ _ _ _ _ _ us hl => match us, hl with | [_, _], _ => rfl),
    f_alike := f6, fd_alike := _, F_alike := F6, k_alike := k6, g_alike := PySem.W.mg_of X G a6, b_alike := F6.binds (ps := ["_law_found", "_law_groups_here"]) (fun _ _ _ _ _ _ us hl => match us, hl with | [_, _], _ => rfl),
    f_wrong := f7, fd_wrong := _, F_wrong := F7, k_wrong := k7, g_wrong := PySem.W.mg_of X G a7, b_wrong := F7.binds (ps := ["_law_way", "_law_cell", "_law_other"]) (fun _ _ _ _ _ _ us hl => match us, hl with | [_, _, _], _ => rfl),
    f_refused := f8, fd_refused := _, F_refused := F8, k_refused := k8, g_refused := PySem.W.mg_of X G a8, b_refused := F8.binds (ps := ["_law_strokes", "_law_places"]) (fun _ _ _ _ _ _ us hl => match us, hl with | [_, _], _ => rfl),
    m_len := PySem.W.mg_none_of X G z_len,
    m_range := PySem.W.mg_none_of X G z_range,
    m_min := PySem.W.mg_none_of X G z_min,
    m_isinstance := PySem.W.mg_none_of X G z_isinstance,
    m_bool := PySem.W.mg_none_of X G z_bool,
    m_int := PySem.W.mg_none_of X G z_int,
    m_list := PySem.W.mg_none_of X G z_list,
    m_ValueError := PySem.W.mg_none_of X G z_ValueError,
    tok_LONGEST := tk_LONGEST, gv_LONGEST := PySem.W.mg_of X G v_LONGEST,
    c_BeatError := C_BeatError, gc_BeatError := PySem.W.mg_of X G aC_BeatError,
    c_NoWheel := C_NoWheel, gc_NoWheel := PySem.W.mg_of X G aC_NoWheel,
    c_NoStroke := C_NoStroke, gc_NoStroke := PySem.W.mg_of X G aC_NoStroke,
    c_NoRow := C_NoRow, gc_NoRow := PySem.W.mg_of X G aC_NoRow,
    c_Uneven := C_Uneven, gc_Uneven := PySem.W.mg_of X G aC_Uneven,
    x_NoWheel := x_NoWheel, kc_NoWheel := kc_NoWheel, sub_NoWheel := sub_NoWheel, ty_NoWheel := ty_NoWheel,
    h_NoWheel := ⟨⟨hg_NoWheel, hk_NoWheel, hs_NoWheel, hd_NoWheel, ha_NoWheel, hn0, ht0, hm_NoWheel⟩, hc_NoWheel⟩,
    ve_NoWheel := kit_VE sVE_NoWheel,
    kit_NoWheel_BeatError := kit_other iC_BeatError tC_BeatError s_NoWheel_BeatError n_NoWheel_BeatError,
    exm_NoWheel := exm_other bC_BeatError iC_BeatError tC_BeatError s_NoWheel_BeatError,
    kit_NoWheel_NoWheel := kit_self,
    kit_NoWheel_NoStroke := kit_other iC_NoStroke tC_NoStroke s_NoWheel_NoStroke n_NoWheel_NoStroke,
    kit_NoWheel_NoRow := kit_other iC_NoRow tC_NoRow s_NoWheel_NoRow n_NoWheel_NoRow,
    kit_NoWheel_Uneven := kit_other iC_Uneven tC_Uneven s_NoWheel_Uneven n_NoWheel_Uneven }
  have FT : Fun K "law" "law" s_law fa (PySem.W.fnOf "law" "law" (defArgs s_law) (defBody s_law) (defScope s_law) .none kV9 dc9 pm9 an9 cd9 ct9) := F9
  refine ⟨_, fun s v => ?_, fun base _ _ => ok_law T FT⟩
  exact .of_eq rfl
end Eb
open PySem PySem.W PyProof.Rows
set_option maxHeartbeats 0 in
theorem PySem.Challenge.cw_evenbeat_k06_grouped_by_hand_holds : PySem.Challenge.rw_evenbeat_k06_grouped_by_hand.Holds := by
  w_on; o_law; k_head; (case hw => w_witness2)
  k_fill
  refine L2.walk_of (l := PySem.Challenge.rw_evenbeat_k06_grouped_by_hand) (n := 63) (k := 5) (x := "_law_script") (CX := fun _ => L2.CX0) (sp := fun w => Eb.sp_law _) rfl (by decide) rfl ⟨rfl, by decide, by decide⟩ (fun w h Y => PySem.W.kIn_of Y) ?F (fun _ _ a ns hl _ hS => ⟨a, ns, rfl, hS, hl, fun _ => rfl⟩) (fun _ _ _ _ _ h => h)
  case F =>
    intro w mg fa h KX G hmg
    refine' Eb.all_mk KX G hmg ?a1 ?l1 ?c1 ?k1 ?a2 ?l2 ?c2 ?k2 ?a3 ?l3 ?c3 ?k3 ?a4 ?l4 ?c4 ?k4 ?a5 ?l5 ?c5 ?k5 ?a6 ?l6 ?c6 ?k6 ?a7 ?l7 ?c7 ?k7 ?a8 ?l8 ?c8 ?k8 ?a9 ?l9 ?c9 ?k9 ?z_len ?z_range ?z_min ?z_isinstance ?z_bool ?z_int ?z_list ?z_ValueError ?v_LONGEST ?aC_BeatError ?iC_BeatError ?tC_BeatError ?bC_BeatError ?aC_NoWheel ?iC_NoWheel ?tC_NoWheel ?bC_NoWheel ?aC_NoStroke ?iC_NoStroke ?tC_NoStroke ?bC_NoStroke ?aC_NoRow ?iC_NoRow ?tC_NoRow ?bC_NoRow ?aC_Uneven ?iC_Uneven ?tC_Uneven ?bC_Uneven ?x_NoWheel ?kc_NoWheel ?sub_NoWheel ?ty_NoWheel ?hn0 ?ht0 ?hc_NoWheel ?hg_NoWheel ?hk_NoWheel ?hs_NoWheel ?ha_NoWheel ?hm_NoWheel ?hd_NoWheel ?sVE_NoWheel ?s_NoWheel_BeatError ?n_NoWheel_BeatError ?s_NoWheel_NoStroke ?n_NoWheel_NoStroke ?s_NoWheel_NoRow ?n_NoWheel_NoRow ?s_NoWheel_Uneven ?n_NoWheel_Uneven
    (case a1 => k_is)
    (case l1 => k_is)
    (case c1 => k_is)
    (case k1 => k_is)
    (case a2 => k_is)
    (case l2 => k_is)
    (case c2 => k_is)
    (case k2 => k_is)
    (case a3 => k_is)
    (case l3 => k_is)
    (case c3 => k_is)
    (case k3 => k_is)
    (case a4 => k_is)
    (case l4 => k_is)
    (case c4 => k_is)
    (case k4 => k_is)
    (case a5 => k_is)
    (case l5 => k_is)
    (case c5 => k_is)
    (case k5 => k_is)
    (case a6 => k_is)
    (case l6 => k_is)
    (case c6 => k_is)
    (case k6 => k_is)
    (case a7 => k_is)
    (case l7 => k_is)
    (case c7 => k_is)
    (case k7 => k_is)
    (case a8 => k_is)
    (case l8 => k_is)
    (case c8 => k_is)
    (case k8 => k_is)
    (case a9 => k_is)
    (case l9 => k_is)
    (case c9 => k_is)
    (case k9 => k_is)
    (case z_len => k_is)
    (case z_range => k_is)
    (case z_min => k_is)
    (case z_isinstance => k_is)
    (case z_bool => k_is)
    (case z_int => k_is)
    (case z_list => k_is)
    (case z_ValueError => k_is)
    (case v_LONGEST => k_is)
    (case aC_BeatError => k_is)
    (case iC_BeatError => k_is)
    (case tC_BeatError => k_is)
    (case bC_BeatError => k_is)
    (case aC_NoWheel => k_is)
    (case iC_NoWheel => k_is)
    (case tC_NoWheel => k_is)
    (case bC_NoWheel => k_is)
    (case aC_NoStroke => k_is)
    (case iC_NoStroke => k_is)
    (case tC_NoStroke => k_is)
    (case bC_NoStroke => k_is)
    (case aC_NoRow => k_is)
    (case iC_NoRow => k_is)
    (case tC_NoRow => k_is)
    (case bC_NoRow => k_is)
    (case aC_Uneven => k_is)
    (case iC_Uneven => k_is)
    (case tC_Uneven => k_is)
    (case bC_Uneven => k_is)
    (case x_NoWheel => k_exc)
    (case kc_NoWheel => k_is)
    (case sub_NoWheel => k_is)
    (case ty_NoWheel => k_is)
    (case hn0 => k_is)
    (case ht0 => k_is)
    (case hc_NoWheel => k_is)
    (case hg_NoWheel => k_is)
    (case hk_NoWheel => k_is)
    (case hs_NoWheel => k_is)
    (case ha_NoWheel => k_is)
    (case hm_NoWheel => k_is)
    (case hd_NoWheel => k_is)
    (case sVE_NoWheel => k_is)
    (case s_NoWheel_BeatError => k_is)
    (case n_NoWheel_BeatError => rfl)
    (case s_NoWheel_NoStroke => k_is)
    (case n_NoWheel_NoStroke => rfl)
    (case s_NoWheel_NoRow => k_is)
    (case n_NoWheel_NoRow => rfl)
    (case s_NoWheel_Uneven => k_is)
    (case n_NoWheel_Uneven => rfl)
