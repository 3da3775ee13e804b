import PyProof.Rows.All
import Wide.All
import OpenK.AllK
import Wide.FinOn
import PyProof.EqAt
import PyProof.EqKinds
import PyProof.TupleCall
import KE.KExcIs
import KE.GoesNew
import KE.GoesEnum
import PySem.Challenge.RW_evenbeat_k05_texts
import HandS.ForMost
import HandS.Zip
import HandS.Rev
import HandS.RevTup
import HandS.Defaults
import HandS.ForExc
import HandS.IsInst
import HandS.ExcIs
import HandS.ExcField
import HandS.ExcInit
import HandS.ExcValue
import HandS.Wide
import HandS.Style
import HandS.Conv
set_option Elab.async false
set_option linter.all false
set_option maxRecDepth 100000
set_option maxHeartbeats 4000000
set_option exponentiation.threshold 1000
/- An exception that an except suite hands to a name, read behind the suite: try .. except X as e: v = e; isinstance of v; v.f -/
namespace Eb
open PySem PySem.Spec PyProof.Rows L2

def ExH (a : Addr) (cls : Value) (d : Option Addr) : HO := .ext fun h => ∃ (oe : Obj) (vs : Array Value), h.get? a = some oe ∧ Zc cls d oe ∧ oe.data = .fields vs

theorem exh_ok {P : Program} {w : World} {H : Hp} {h : Heap} {a : Addr} {cls : Value} {d : Option Addr} {oe : Obj} {vs : Array Value}
    (e : h.get? a = some oe) (z : Zc cls d oe) (f : oe.data = .fields vs) : ObjOk P w H h a (ExH a cls d) :=
  ⟨⟨oe, vs, e, z, f⟩, ⟨oe, e⟩, fun _ _ ⟨o, v, q, r⟩ k => ⟨o, v, k o q, r⟩⟩
theorem exh_at {P : Program} {w : World} {H : Hp} {h : Heap} {a : Addr} {cls : Value} {d : Option Addr} (hok : HOk P w H h) (e : H a = some (ExH a cls d)) :
    ∃ (oe : Obj) (vs : Array Value), h.get? a = some oe ∧ Zc cls d oe ∧ oe.data = .fields vs := by
  have t : ObjOk P w H h a (.ext fun h => ∃ (oe : Obj) (vs : Array Value), h.get? a = some oe ∧ Zc cls d oe ∧ oe.data = .fields vs) := hok a _ e
  exact t.1

section
variable {X : Cx} {pins : List (Addr × Obj)} {σ : L2.St} {H : Hp} {s : Shared} {a : Addr} {oe : Obj} {vs : Array Value} {cls : Value} {d : Option Addr}

/-- an untracked exception object of ours is tracked from here on -/
theorem hold_it (I : Inv X pins σ H s) (e : s.heap.get? a = some oe) (z : Zc cls d oe) (f : oe.data = .fields vs) (na : H a = none) (nL : a ≠ X.env.locals)
    (n0 : X.s_0.heap.get? a = none) (np : ∀ p ∈ X.pn ++ pins, p.1 ≠ a) : Inv X pins σ (upd H a (ExH a cls d)) s := by
  have was : ∀ {b : Addr} {o : Obj}, X.s_0.heap.get? b = some o → b ≠ a := fun {b o} q w => by
    rw [w, n0] at q
    cases q
  refine ⟨I.ok, I.os, I.bare,
    { keep := I.base.keep, slot := I.base.slot, there := I.base.there,
      free := fun b o q n hx => (upd_ne (was q)).trans (I.base.free b o q n hx),
      tups := fun b xs q => (upd_ne (ne_of_none (I.base.tups b xs q) na)).trans (I.base.tups b xs q),
      frzs := fun b o u q => (upd_ne (ne_of_none (I.base.frzs b o u q) na)).trans (I.base.frzs b o u q),
      tbls := fun b ps q => ?_ }, I.loc, I.cell, (upd_ne (Ne.symm nL)).trans I.free, fun x c q => ?_, fun p hp => ?_, fun b o q => ?_, I.len⟩
  · obtain ⟨more, r⟩ := I.base.tbls b ps q
    exact ⟨more, (upd_ne (ne_of_none r na)).trans r⟩
  · have ca : c ≠ a := fun w => by
      obtain ⟨v, o, ho, hd⟩ := I.cell x c q
      rw [w, e] at ho
      cases ho
      rw [f] at hd
      cases hd
    exact (upd_ne ca).trans (I.freeC x c q)
  · obtain ⟨h1, h2, h3⟩ := I.pin p hp
    exact ⟨h1, (upd_ne (np p hp)).trans h2, h3⟩
  · by_cases hb : b = a
    · rw [hb, upd_same] at q
      rw [hb]
      cases q
      exact exh_ok e z f
    · rw [upd_ne hb] at q
      exact (I.hok b o q).stay (fun _ _ _ r => r) (fun c r => (upd_ne (ne_of_none r na)).trans r) fun c xs r => (upd_ne (ne_of_none r na)).trans r
end

/-- what «except x as n: m = n» wishes of an exception of the body (it is caught; n in slot i, m in slot j) -/
def wHeld (K : PySem.W.Frag) (c : Value) (i j : Nat) (D : Ends) : WX := fun cls d σ H => PySem.W.exmOne K cls c = some true ∧
  ∀ a, H a = none → D.nx (((σ.set i (some (.ref a))).set j (some (.ref a))).set i none) (upd H a (ExH a cls d))

section
variable {X : Cx} {x n m : Str} {c : Value} {i j : Nat} {body : List Stmt} {p1 p2 p3 np pos pos' : Pos} {tb : WX → TS}
theorem ps_try_held (hs : X.stack = X.env :: X.outer) (hf : X.env.frame = some X.env.locals) (hex : X.ex = []) (hN : X.N.Nodup) (hi : X.N[i]? = some n) (hln : X.env.kindOf n = some .local)
    (hj : X.N[j]? = some m) (hlm : Loc X.env.scope m) (hfm : X.fn m = true ∨ X.env.scope.names.lookup m = some .local) (hc : Names X x c) (hdn : (n == ("__debug__" : Str)) = false) (hcn : (n == ("__classdict__" : Str)) = false)
    (hb : ∀ (W : WX) (pn : List (Addr × Obj)) (xe : Value → Shared → Prop), Takes (X.tr pn xe) W → PassesOwn (model X.prog X.w) X.A X.env xe → PSs (X.tr pn xe) body (tb W)) :
    PS X (.Try body [.ExceptHandler (some (.Name x np)) (some n) [.Assign [.Name m p1] (.Name n p2) p3] pos'] [] [] pos) (fun D σ H => tb (wHeld X.K c i j D) D σ H) := by
  constructor
  intro pins s σ H D I h
  have ok := I.ok
  have A1 : X.A.frames = some (X.env :: X.outer) := by rw [ok.frames, hs]
  refine wpAny_Try_except ?_
  have R := (hb (wHeld X.K c i j D) (X.pn ++ pins)
    (fun e s1 => wpAny (model X.prog X.w) X.A (noteFrame e X.env)
      (fun _ s2 => wpAny (model X.prog X.w) X.A (setFlight e none)
        (fun _ s3 => wpAny (model X.prog X.w) X.A (handleBy e X.env [.ExceptHandler (some (.Name x np)) (some n) [.Assign [.Name m p1] (.Name n p2) p3] pos']) (SP X pins D) X.xe s3)
        X.xe s2) X.xe s1)
    (fun u s' xx => ?_) PassesOwn.looking).run [] s σ H D (I.toTry _) h
  · refine wpAny_mono R (fun f s1 r => ?_) fun _ _ r => r
    cases f with
    | next =>
      obtain ⟨σ1, H1, J, q⟩ := r
      exact wpAny_execs_nil ⟨σ1, H1, J.ofTry ok, q⟩
    | ret u =>
      obtain ⟨v, σ1, H1, J, t, q⟩ := r
      exact ⟨v, σ1, H1, J.ofTry ok, t, q⟩
    | brk =>
      obtain ⟨σ1, H1, J, q⟩ := r
      exact ⟨σ1, H1, J.ofTry ok, q⟩
    | cont =>
      obtain ⟨σ1, H1, J, q⟩ := r
      exact ⟨σ1, H1, J.ofTry ok, q⟩
  -- what the body raised
  obtain ⟨a, B, sI, pn1, σ1, H1, cls, d, rfl, J1, nb, up, sky, na, os, ag, hit, go⟩ := xx
  have J : Inv X pins σ1 H1 sI := J1.ofTry ok
  have sky1 : Sky B (X.env :: X.outer) a (Zc cls d) X.env.locals s'.heap := hs ▸ sky
  show wpAny (model X.prog X.w) X.A (noteFrame (.ref a) X.env) _ _ _
  refine Sky.land Zc.steady A1 hf sky1 fun h3 fl up3 => ?_
  have J3 : Inv X pins σ1 H1 { s' with heap := h3 } := J.landed nb fl.1 (up.trans up3) os ag
  obtain ⟨o3, v3, e3, z3, d3⟩ := fl.there
  have off : a ∉ frs (X.env :: X.outer) := fun hm => by
    obtain ⟨_, o, e, hnf⟩ := fl.2.2.1.mem hm
    rw [e3] at e
    cases e
    exact hnf _ d3
  have nL : a ≠ X.env.locals := fun z => off (List.mem_filterMap.mpr ⟨X.env, List.mem_cons_self, by rw [hf, z]⟩)
  have nF : a ∉ X.fs := fun hm => by
    obtain ⟨e, he, q⟩ := List.mem_filterMap.mp hm
    exact off (List.mem_filterMap.mpr ⟨e, List.mem_cons_of_mem _ he, q⟩)
  have new : ∀ b o, sI.heap.get? b = some o → b ∉ frs X.stack → b ≠ a := fun b o q hb z => by
    have t := nb b o q hb
    rw [z, fl.2.1] at t
    cases t
  have offS : a ∉ frs X.stack := by rw [hs]; exact off
  have n0 : X.s_0.heap.get? a = none := by
    cases q : X.s_0.heap.get? a with
    | none => rfl
    | some o =>
      obtain ⟨o1, q1⟩ := J.base.there a o q (by rw [hex]; exact fun z => nomatch z)
      exact absurd rfl (new a o1 q1 offS)
  have nP : ∀ p ∈ X.pn ++ pins, p.1 ≠ a := fun p hp => by
    obtain ⟨q1, q2, q3, q4, _⟩ := J.pin p hp
    refine new p.1 p.2 q1 fun hm => ?_
    rw [hs] at hm
    obtain ⟨e, he, q⟩ := List.mem_filterMap.mp hm
    rcases List.mem_cons.mp he with w | w
    · rw [w, hf] at q
      exact q3 (Option.some.inj q).symm
    · exact q4 (List.mem_filterMap.mpr ⟨e, w, q⟩)
  have S3 := J3.suite e3 d3 na nL nF
  refine wpAny_handleBy_cons (codeAny_handlers_test ?_) (by intro q; cases q)
  have LT : PySem.W.Looks (model X.prog X.w) h3 (typeOf (.ref a)) cls := fun A Q E s k q => wpAny_typeOf_ref (k _ _ e3) (by rw [z3.1]; exact q)
  have LM := PySem.W.exm_one (M := model X.prog X.w) J3.kIn LT hit
  have read : ∀ {Q E : Value → Shared → Prop}, Q c { s' with heap := h3 } → wpAny (model X.prog X.w) (X.A.mark (some (.ref a))) (eval (.Name x np) X.env) Q E { s' with heap := h3 } := fun {Q E} q => by
    obtain ⟨g1, g2, g3⟩ := hc
    rcases g3 with g | ⟨g, g4, g5⟩
    · exact ld_glob (X := X.suite a ((a, o3) :: (X.pn ++ pins))) S3 g1 g q g2
    · exact ld_blt (X := X.suite a ((a, o3) :: (X.pn ++ pins))) S3 g1 g g4 q g5 g2
  refine read (LM.here (codeAny_handlers_suite_as ?_))
  refine HandSPX.lands_againZ fl fun h4 fl4 up4 => ?_
  have J4 : Inv X pins σ1 H1 { s' with heap := h4 } := J.landed nb fl4.1 ((up.trans up3).trans up4) os ag
  obtain ⟨o4, v4, e4, z4, d4⟩ := fl4.there
  have S4 := J4.suite e4 d4 na nL nF
  refine store_ok (X := X.suite a ((a, o4) :: (X.pn ++ pins))) (v := .ref a) S4 hN hi (.inl hln) rfl (fun s5 S5 => ?_) (.inr hln)
  have W : PSs (X.suite a ((a, o4) :: (X.pn ++ pins))) [.Assign [.Name m p1] (.Name n p2) p3] (tAsg (tVar i) (gName j)) :=
    pss_one (ps_set (X := X.suite a ((a, o4) :: (X.pn ++ pins))) (i := j) hN hj hlm (pe_var (X := X.suite a ((a, o4) :: (X.pn ++ pins))) hi (.inl hln) hdn hcn) (by rfl) hfm)
  have lt : i < σ1.length := by
    rw [J.len]
    exact (List.getElem?_eq_some_iff.mp hi).1
  refine wpAny_mono (W.run [] s5 _ H1 { nx := fun σ' H' => σ' = (σ1.set i (some (.ref a))).set j (some (.ref a)) ∧ H' = H1, rt := fun _ _ => False, bk := fun _ _ => False, ct := fun _ _ => False } S5 ⟨.ref a, List.getElem?_set_self lt, rfl, rfl⟩) (fun f s6 r => ?_) (fun _ _ z => z.elim)
  cases f with
  | next =>
    obtain ⟨σ6, H6, S6, rfl, rfl⟩ := r
    have pa := S6.pin (a, o4) (List.mem_append_left _ List.mem_cons_self)
    have J6 : Inv X pins _ H6 s6 := S6.unsuite ok
    have K6 : Inv X ((a, o4) :: pins) _ H6 s6 := J6.pins_of fun p hp => by
      rcases List.mem_cons.mp hp with w | w
      · rw [w]
        exact pa
      · exact J6.pin p (List.mem_append_right _ w)
    refine gone_ok K6 hN hi hln fun s7 J7 => ?_
    have p7 := J7.pin (a, o4) (List.mem_append_right _ List.mem_cons_self)
    have M7 : Inv X pins _ H6 s7 := J7.pins_of fun p hp => J7.pin p (List.mem_append_right _ (List.mem_cons_of_mem _ hp))
    exact ⟨_, _, hold_it M7 p7.1 z4 d4 p7.2.1 nL n0 nP, go a na⟩
  | ret u =>
    obtain ⟨_, _, _, _, _, q⟩ := r
    exact q.elim
  | brk =>
    obtain ⟨_, _, _, q⟩ := r
    exact q.elim
  | cont =>
    obtain ⟨_, _, _, q⟩ := r
    exact q.elim
end

/-! ### isinstance of such a held exception -/
/-- what the class D must say: as of one that a suite holds, and that it is a class of the text -/
structure HeldC (K : PySem.W.Frag) (D : Addr) : Prop extends ExcC K D where
  hc : (PySem.W.clsIn K D).isSome = true

/-- the held exception stands as an instance of its class -/
def Stood (H : Hp) (a D : Addr) (d : Option Addr) : Prop := H a = some (ExH a (.ref D) d) ∧ ∀ dd, d = some dd → ∃ fs, H dd = some (.xd fs)
theorem stood_inst {P : Program} {w : World} {H : Hp} {h : Heap} {a D : Addr} {d : Option Addr} (hok : HOk P w H h) (t : Stood H a D d) : ∃ ox od, PySem.W.InstAt h a ox D od := by
  obtain ⟨oe, vs, e, z, f⟩ := exh_at hok t.1
  cases d with
  | none => exact ⟨oe, none, e, z.1, by unfold PySem.W.notCls; rw [f] <;> rfl, by rw [z.2]; trivial⟩
  | some dd =>
    obtain ⟨fs, q⟩ := t.2 dd rfl
    have x : ObjOk P w H h dd (.xd fs) := hok dd _ q
    obtain ⟨mA, hns, _⟩ := x
    obtain ⟨o, _, _, ho, _⟩ := hns
    exact ⟨oe, some o, e, z.1, by unfold PySem.W.notCls; rw [f] <;> rfl, by rw [z.2]; exact ho⟩
section
variable {X : Cx}
def rIsH (K : PySem.W.Frag) : List V → Hp → VK → Prop := fun xs H Q => ∃ (a D : Addr) (d : Option Addr) (c : V) (cv : Value) (b : Bool), xs = [.ref a, c] ∧ Stood H a D d ∧ HeldC K D ∧ ClsV c cv ∧ PySem.W.kitOne K (.ref D) cv = some b ∧ Q (.bl b) H
def rIsHT (K : PySem.W.Frag) : List V → Hp → VK → Prop := fun xs H Q => ∃ (a D tp : Addr) (d : Option Addr) (cs : List V) (us : List Value) (b : Bool), xs = [.ref a, .ref tp] ∧ Stood H a D d ∧ HeldC K D ∧ H tp = some (.tup cs) ∧ Paired ClsV cs us ∧ PySem.W.kitAny K (.ref D) us = some b ∧ Q (.bl b) H
theorem held_kit {D a : Addr} {od : Option Obj} {ox : Obj} {K : PySem.W.Frag} (C : HeldC K D) : PySem.W.KitX K (.ref a) (.ref D) (fun h => PySem.W.InstAt h a ox D od) :=
  PySem.W.kitx_exc C.hc C.hg C.hk C.hs C.ha C.hn C.ht C.hm
theorem call_isH : CallR X (.builtin "isinstance") (rIsH X.K) := by
  intro pins s σ H xs us Q I r h
  obtain ⟨a, D, d, c, cv, b, rfl, st, C, kc, e, q⟩ := h
  obtain ⟨u1, u2, rfl, r1, r2⟩ := vals2 r
  cases (show u1 = Value.ref a from r1)
  have e2 := kc.eq r2
  subst e2
  obtain ⟨ox, od, J⟩ := stood_inst I.hok st
  exact PySem.W.kia_one (held_kit C) I.kIn J e (fun z => nomatch z) fun tk => ⟨.bl b, H, I.tok tk, rfl, q⟩
theorem call_isHT : CallR X (.builtin "isinstance") (rIsHT X.K) := by
  intro pins s σ H xs us Q I r h
  obtain ⟨a, D, tp, d, cs, ws, b, rfl, st, C, hT, kc, e, q⟩ := h
  obtain ⟨u1, u2, rfl, r1, r2⟩ := vals2 r
  cases (show u1 = Value.ref a from r1)
  cases (show u2 = Value.ref tp from r2)
  obtain ⟨ox, od, J⟩ := stood_inst I.hok st
  obtain ⟨_, its, rv, o, h1, h2, n, h3⟩ := (show ObjOk X.prog X.w H s.heap tp (.tup cs) from I.hok tp _ hT)
  have e3 := ClsV.all kc rv
  subst e3
  obtain ⟨oc, od', dt, sl⟩ := o
  simp only at h2 h3
  subst h2 h3
  exact PySem.W.kia_tup (held_kit C) I.kIn J h1 e (fun z => nomatch z) fun tk => ⟨.bl b, H, I.tok tk, rfl, q⟩
end
/-- v.f of a held exception whose own dict stands at dd -/
def tHeldF (K : PySem.W.Frag) (f : Str) (te : TE) : TE := fun σ H Q => te σ H fun x H1 => ∃ (a D dd : Addr) (fs : List (Str × V)) (v : V), x = .ref a ∧ H1 a = some (ExH a (.ref D) (some dd)) ∧ H1 dd = some (.xd fs) ∧ HeldC K D ∧ PySem.W.findIn K (.ref D) f = some none ∧ fs.lookup f = some v ∧ Q v H1
theorem pe_heldF {X : Cx} {e : Expr} {te : TE} {pos : Pos} {n : Str} (he : PE X e te) (hb : attributeBase e n X.env (eval e X.env) = eval e X.env := by rfl) : PE X (.Attribute e n pos) (tHeldF X.K n te) := by
  refine ⟨fun pins s σ H Q I h => ?_⟩
  refine attr_of hb (thn (he.run pins s σ H _ I h) fun u s1 hh => ?_)
  obtain ⟨x, H1, I1, rx, a, D, dd, fs, v, rfl, ea, ed, C, hno, l, q⟩ := hh
  obtain rfl : u = Value.ref a := rx
  obtain ⟨oe, vs, e4, z, hd⟩ := exh_at I1.hok ea
  have hx : ObjOk X.prog X.w H1 s1.heap dd (.xd fs) := I1.hok dd _ ed
  obtain ⟨mA, hns, hr⟩ := hx
  obtain ⟨od, ho, hl⟩ := lookIn_ns hns
  obtain ⟨u, hu, ru⟩ := RelO.some_of (v := v) (o := mA n) (by rw [← l]; exact hr n)
  have J : PySem.W.InstAt s1.heap a oe D (some od) := ⟨e4, z.1, by unfold PySem.W.notCls; rw [hd] <;> rfl, by rw [z.2]; exact ho⟩
  exact HandSPX.exc_get I1.kIn J C.hg C.hk C.hs (PySem.W.findObj_own C.hd hno rfl (by rw [hl, hu])) (handed_of ru) ⟨v, H1, I1.tok _, ru, q⟩
end Eb
namespace Eb
open PySem PySem.Spec PyProof.Rows L2
theorem kit_self {K : PySem.W.Frag} {D : Addr} : PySem.W.kitOne K (.ref D) (.ref D) = some true := by
  unfold PySem.W.kitOne
  rw [if_pos (by simp)]
theorem kit_cls {K : PySem.W.Frag} {D C : Addr} {b : Bool} (i : PySem.W.isClsIn K C = true) (t : PySem.W.typeIn K (.ref C) = some (.type "type")) (s : PySem.W.subIn K (.ref D) (.ref C) = some b) : PySem.W.kitCls K (.ref D) (.ref C) = some b := by
  have i2 : (PySem.W.clsIn K C).isSome = true := i
  unfold PySem.W.kitCls
  dsimp only
  rw [i2, t, if_pos (by rfl), s]
theorem kit_other {K : PySem.W.Frag} {D C : Addr} {b : Bool} (i : PySem.W.isClsIn K C = true) (t : PySem.W.typeIn K (.ref C) = some (.type "type")) (s : PySem.W.subIn K (.ref D) (.ref C) = some b) (n : (D == C) = false) : PySem.W.kitOne K (.ref D) (.ref C) = some b := by
  unfold PySem.W.kitOne
  have e : (Value.ref D == Value.ref C) = false := by
    have n' : D ≠ C := by simpa using n
    simpa using n'
  rw [e, if_neg Bool.false_ne_true]
  exact kit_cls i t s
theorem exm_other {K : PySem.W.Frag} {D C : Addr} {b : Bool} (x : PySem.W.subIn K (.ref C) (.type "BaseException") = some true) (i : PySem.W.isClsIn K C = true) (t : PySem.W.typeIn K (.ref C) = some (.type "type")) (s : PySem.W.subIn K (.ref D) (.ref C) = some b) :
    PySem.W.exmOne K (.ref D) (.ref C) = some b := by
  unfold PySem.W.exmOne
  rw [x, if_pos (by rfl)]
  exact kit_cls i t s
theorem kit_VE {K : PySem.W.Frag} {D : Addr} {b : Bool} (s : PySem.W.subIn K (.ref D) (.type "ValueError") = some b) : PySem.W.kitOne K (.ref D) (.type "ValueError") = some b := by
  unfold PySem.W.kitOne
  rw [if_neg (by simp)]
  show (if PySem.W.kitMeta "ValueError" = true then PySem.W.subIn K (.ref D) (.type "ValueError") else none) = some b
  rw [if_pos (by decide +kernel), s]
end Eb
/-! readings, one step a lemma; «walk_at "rd"» takes the steps that need no thought -/
namespace Eb
open PySem PySem.Spec PyProof.Rows L2
section
variable {σ : L2.St} {H : Hp} {Q : VK} {D : Ends} {v x y : V} {ta tb te : TE} {tr : TA} {t u : TS} {c c' : TT} {i j : Int} {k : Bool} {R : L2.St → Hp → Prop} {QT : Bool → Hp → Prop} {QA : List V → Hp → Prop}
theorem rd_var {n : Nat} (h : σ[n]? = some (some v)) (q : Q v H) : tVar n σ H Q := ⟨v, h, q⟩
theorem rd_c (q : Q v H) : tC v σ H Q := q
theorem rd_op {r : R2} (q : ta σ H fun x H1 => tb σ H1 fun y H2 => r x y H2 Q) : tOp r ta tb σ H Q := q
theorem rd_un {r : V → Hp → VK → Prop} (q : ta σ H fun x H1 => r x H1 Q) : tUn r ta σ H Q := q
theorem rd_I0 {g : Int → Int → V} (q : Q (g i j) H) : rI0 g (.int i) (.int j) H Q := ⟨i, j, rfl, rfl, q⟩
theorem rd_I {C : Int → Int → Prop} {g : Int → Int → V} (hc : C i j) (q : Q (g i j) H) : rI C g (.int i) (.int j) H Q := ⟨i, j, rfl, rfl, hc, q⟩
theorem rd_U {g : Int → V} (q : Q (g i) H) : rU g (.int i) H Q := ⟨i, rfl, q⟩
theorem rd_eqI (q : Q (.bl (decide (V.int i = V.int j))) H) : rEq (.int i) (.int j) H Q := ⟨rfl, q⟩
theorem rd_neI (q : Q (.bl (!decide (V.int i = V.int j))) H) : rNe (.int i) (.int j) H Q := ⟨rfl, q⟩
theorem rd_cons (q : ta σ H fun x H1 => tr σ H1 fun xs H2 => QA (x :: xs) H2) : tCons ta tr σ H QA := q
theorem rd_nil (q : QA [] H) : tNil σ H QA := q
theorem rd_cb {r : List V → Hp → VK → Prop} (q : tr σ H fun vs H1 => r vs H1 Q) : tCB r tr σ H Q := q
theorem rd_call {sp : Sp} {dvs : List V} {E : XK} (q : tr σ H fun vs H1 => sp (vs ++ dvs) H1 Q E) : tCall sp dvs E tr σ H Q := q
theorem rd_callS {sp : Sp} {E : L2.St → XK} (q : tr σ H fun vs H1 => sp vs H1 Q (E σ)) : tCallS sp E tr σ H Q := q
theorem rd_test (q : te σ H fun x H' => ∃ k, x = .bl k ∧ QT k H') : tTest te σ H QT := q
theorem rd_tb (q : te σ H fun x H' => ∃ k, x = .bl k ∧ QT k H') : tB te σ H QT := q
theorem rd_bl {q' : Bool → Prop} (q : q' k) : ∃ k', V.bl k = .bl k' ∧ q' k' := ⟨k, rfl, q⟩
theorem rd_and (q : c σ H fun b H1 => if b = true then c' σ H1 QT else QT false H1) : tAnd c c' σ H QT := q
theorem rd_or (q : c σ H fun b H1 => if b = true then QT true H1 else c' σ H1 QT) : tOr c c' σ H QT := q
theorem rd_not (q : c σ H fun b H1 => QT (!b) H1) : tNot c σ H QT := q
theorem rd_andV (q : ta σ H fun x H1 => ∃ b, x = .bl b ∧ if b = true then tb σ H1 Q else Q (.bl false) H1) : tAndV ta tb σ H Q := q
theorem rd_orV (q : ta σ H fun x H1 => ∃ b, x = .bl b ∧ if b = true then Q (.bl true) H1 else tb σ H1 Q) : tOrV ta tb σ H Q := q
theorem rd_notV (q : ta σ H fun x H1 => ∃ b, x = .bl b ∧ Q (.bl (!b)) H1) : tNotV ta σ H Q := q
theorem rd_ifE (q : c σ H fun b H1 => if b = true then ta σ H1 Q else tb σ H1 Q) : tIf c ta tb σ H Q := q
theorem rd_asg {g : TG} (q : te σ H fun x H1 => g x σ H1 D.nx) : tAsg te g D σ H := q
theorem rd_gn {n : Nat} (q : R (σ.set n (some v)) H) : gName n v σ H R := q
theorem rd_seq (q : t { D with nx := u D } σ H) : tSeq t u D σ H := q
theorem rd_ret (q : te σ H D.rt) : tRet te D σ H := q
theorem rd_ifS (q : c σ H fun b H1 => if b = true then t D σ H1 else u D σ H1) : tIfS c t u D σ H := q
theorem rd_drop (q : te σ H fun _ H1 => D.nx σ H1) : tDrop te D σ H := q
theorem rd_next (q : D.nx σ H) : tNext D σ H := q
theorem rd_tup (q : tr σ H fun xs H1 => xs.length ≤ sizeLine ∧ ∀ p, H1 p = none → Q (.ref p) (upd H1 p (.tup xs))) : tTup tr σ H Q := q
theorem rd_lst (q : tr σ H fun xs H1 => xs.length ≤ sizeLine ∧ ∀ p, H1 p = none → Q (.ref p) (upd H1 p (.lst xs))) : tLst tr σ H Q := q
theorem rd_ixL {K : PySem.W.Frag} {p : Addr} {xs : List V} (hs : SqL K H p xs) (hi : atI xs i = some v) (q : Q v H) : rIxL K (.ref p) (.int i) H Q := ⟨p, xs, i, v, rfl, rfl, hs, hi, q⟩
theorem rd_ixT {K : PySem.W.Frag} {p : Addr} {xs : List V} (hs : SqT K H p xs) (hi : atI xs i = some v) (q : Q v H) : rIxT K (.ref p) (.int i) H Q := ⟨p, xs, i, v, rfl, rfl, hs, hi, q⟩
theorem rd_sl {r : V → Option Int → Option Int → Hp → VK → Prop} {tl th : TO} (q : te σ H fun x H1 => tl σ H1 fun l H2 => th σ H2 fun u H3 => r x l u H3 Q) : tSl r te tl th σ H Q := q
theorem rd_no {QO : Option Int → Hp → Prop} (q : QO none H) : tNoPart σ H QO := q
theorem rd_slL {K : PySem.W.Frag} {p : Addr} {xs : List V} {lo hi : Option Int} (hs : SqL K H p xs) (q : ∀ n, H n = none → Q (.ref n) (upd H n (.lst (cutV xs lo hi)))) : rSlL K (.ref p) lo hi H Q := ⟨p, xs, rfl, hs, q⟩
theorem rd_for {wi : TI} {g : TG} {tb : TS} (q : wi σ H fun J H1 => ∃ W : Nat → Nat → L2.St → Hp → Prop, (∃ m, W 0 m σ H1) ∧ ∀ i m σ H, W i m σ H →
  (J.stop i H ∧ D.nx σ H) ∨ (J.go i H ∧ ∃ N : L2.St → Hp → Prop, (∀ σ' H', N σ' H' → ∃ m', m' < m ∧ W (i + 1) m' σ' H') ∧ ∀ x H', J.yld i H x H' → g x σ H' fun σ2 H2 => tb { D with nx := N, ct := N, bk := D.nx } σ2 H2)) : tFor wi g tb D σ H := q
theorem rd_lc {wi : TI} {g : TG} {tt : TT} {vs : List Nat} (q : wi σ H fun J H1 => ∀ D, H1 D = none → ∃ W : Nat → Nat → Hp → Prop, (∃ m, W 0 m (upd H1 D (.lst []))) ∧ ∀ i m H, W i m H →
  (J.stop i H ∧ Q (.ref D) H) ∨ (J.go i H ∧ ∃ Nx : Hp → Prop, (∀ H', Nx H' → ∃ m', m' < m ∧ W (i + 1) m' H') ∧ ∀ x H', J.yld i H x H' → g x (wipe σ vs) H' fun σ2 H2 => wipe σ2 vs = wipe σ vs ∧ tt σ2 H2 fun b H3 =>
    if b = true then te σ2 H3 fun y H4 => ∃ acc, H4 D = some (.lst acc) ∧ acc.length < sizeLine ∧ Nx (upd H4 D (.lst (acc ++ [y]))) else Nx H3)) : tLc wi g tt te vs σ H Q := q
theorem rd_tyes (q : QT true H) : tYes σ H QT := q
theorem rd_rng1 {R : It → Hp → Prop} (q : tr σ H fun vs H1 => ∃ j : Int, vs = [.int j] ∧ -(2 ^ 62) ≤ j ∧ j < 2 ^ 62 ∧ R (Itr 0 j.toNat) H1) : iRng1 tr σ H R := q
theorem rd_ni {K : PySem.W.Frag} {p : Addr} {xs : List V} (hT : H p = some (.tup xs)) (hx : flatV x = true) (hxs : xs.all flatV = true) (q : Q (.bl (!inV x xs)) H) : rIn K true x (.ref p) H Q := ⟨p, xs, rfl, .inr (SqT.of hT), hx, hxs, q⟩
theorem rd_set {p : Addr} {xs : List V} {n : Nat} {R' : Hp → Prop} (h : H p = some (.lst xs)) (hj : ixN xs.length i = some n) (q : R' (upd H p (.lst (xs.set n v)))) : rSetL (.ref p) (.int i) v H R' := ⟨p, xs, i, n, rfl, rfl, h, hj, q⟩
theorem rd_gsub {to ti : TE} {t : TSet} (q : to σ H fun o H1 => ti σ H1 fun i H2 => t o i v H2 fun H3 => R σ H3) : gSub to ti t v σ H R := q
theorem rd_lrg {te' : L2.St → Hp → (Int → Int → Hp → Prop) → Prop} (q : te' σ H fun a b H1 => RgOk a b ∧ ∀ q, H1 q = none → Q (.ref q) (upd H1 q (.lst (rgV a b)))) : tLstRg te' σ H Q := q
theorem rd_rg1 {QR : Int → Int → Hp → Prop} (q : te σ H fun x H1 => ∃ n, x = .int n ∧ QR 0 n H1) : tRg1 te σ H QR := q
theorem rgV_ints (n : Int) : rgV 0 n = ((List.range n.toNat).map fun k => ((k : Nat) : Int)).map V.int := by
  unfold rgV
  rw [List.map_map, Int.sub_zero]
  refine List.map_congr_left fun k _ => ?_
  show V.int (0 + (k : Int)) = V.int (k : Int)
  rw [Int.zero_add]
def rAddZ : R2 := fun x y H Q => ∃ i j, x = .str i ∧ y = .str j ∧ i.length + j.length ≤ sizeLine ∧ Q (.str (i ++ j)) H
theorem op_addZ {X : Cx} : OpR X (binaryOp .Add) rAddZ := op_add_str
theorem rd_addZ {a b : Str} (h : a.length + b.length ≤ 1000) (q : Q (.str (a ++ b)) H) : rAddZ (.str a) (.str b) H Q := ⟨a, b, rfl, rfl, Nat.le_of_lt (small1000 h), q⟩
theorem rd_slS {z : Str} {lo hi : Option Int} (h : z.length ≤ 1000) (q : Q (.str (cutS z lo hi)) H) : rSlS (.str z) lo hi H Q := ⟨z, rfl, Nat.le_of_lt (small1000 h), q⟩
theorem rd_ixZ {z : Str} {c : Nat} (h : z.length ≤ 1000) (hi : atI z.cps.toList i = some c) (q : Q (.str ⟨#[c]⟩) H) : rIxS (.str z) (.int i) H Q := ⟨z, i, c, rfl, rfl, Nat.le_of_lt (small1000 h), hi, q⟩
theorem rd_eqZ {a b : Str} (q : Q (.bl (decide (V.str a = V.str b))) H) : rEq (.str a) (.str b) H Q := ⟨rfl, q⟩
theorem rd_neZ {a b : Str} (q : Q (.bl (!decide (V.str a = V.str b))) H) : rNe (.str a) (.str b) H Q := ⟨rfl, q⟩
theorem rd_chain {r r' : R2} {tc : TE} (q : ta σ H fun x H1 => tb σ H1 fun y H2 => r x y H2 fun z H3 => ∃ k, z = .bl k ∧ (if k = true then tc σ H3 fun w' H4 => r' y w' H4 Q else Q (.bl false) H3)) : tChain r r' ta tb tc σ H Q := q
theorem rd_m1 {r : V → List V → Hp → VK → Prop} (q : ta σ H fun x H1 => (∃ a, x = .str a) ∧ te σ H1 fun y H2 => r x [y] H2 Q) : tM1 r ta te σ H Q := q
theorem rd_isZ {a : Str} {B : Prop} (q : B) : (∃ a', V.str a = .str a') ∧ B := ⟨⟨a, rfl⟩, q⟩
theorem rd_gtup {K : PySem.W.Frag} {tg : TGs} {n : Nat} {p : Addr} {xs : List V} (hT : H p = some (.tup xs)) (hn : xs.length = n) (q : tg xs σ H R) : gTup K n tg (.ref p) σ H R := ⟨p, xs, rfl, SqT.of hT, hn, q⟩
theorem rd_gcons {tg : TG} {tgs : TGs} {r : List V} (q : tg v σ H fun σ' H' => tgs r σ' H' R) : gCons tg tgs (v :: r) σ H R := ⟨v, r, rfl, q⟩
theorem rd_gnil (q : R σ H) : gNil [] σ H R := ⟨rfl, q⟩
theorem rd_is {tl : TE} {RI : It → Hp → Prop} (q : tl σ H fun v H1 => ∃ x, v = .str x ∧ RI (Its x) H1) : iStr tl σ H RI := q
theorem rd_isx {x : Str} {B : Str → Prop} (q : B x) : ∃ x', V.str x = .str x' ∧ B x' := ⟨x, rfl, q⟩
theorem rd_il {K : PySem.W.Frag} {tl : TE} {R : It → Hp → Prop} (q : tl σ H fun x H1 => ∃ a, x = .ref a ∧ (∃ xs, SqL K H1 a xs) ∧ R (Itl K a) H1) : iList K tl σ H R := q
theorem rd_part {QO : Option Int → Hp → Prop} (q : te σ H fun x H1 => ∃ i, x = .int i ∧ QO (some i) H1) : tPart te σ H QO := q
theorem rd_partI {QI : Int → Prop} (q : QI i) : ∃ i', V.int i = .int i' ∧ QI i' := ⟨i, rfl, q⟩
theorem rd_bm {K : PySem.W.Frag} {T : String} {r : V → List V → Hp → VK → Prop} (q : te σ H fun x H1 => tyV K T x H1 ∧ tr σ H1 fun xs H2 => r x xs H2 Q) : tBM K T r te tr σ H Q := q
theorem rd_bm0 {K : PySem.W.Frag} {T : String} {r : V → List V → Hp → VK → Prop} (q : te σ H fun x H1 => tyV K T x H1 ∧ r x [] H1 Q) : tBM0 K T r te σ H Q := q
theorem rd_tyL {K : PySem.W.Frag} {p : Addr} {xs : List V} {B : Prop} (hs : H p = some (.lst xs)) (q : B) : tyV K "list" (.ref p) H ∧ B := ⟨.inl ⟨rfl, _, SqL.of hs⟩, q⟩
theorem rd_app {p : Addr} {xs : List V} (hs : H p = some (.lst xs)) (hz : xs.length < 1000) (q : Q .non (upd H p (.lst (xs ++ [y])))) : rAppend (.ref p) [y] H Q := ⟨p, xs, y, rfl, rfl, hs, small1000 (Nat.le_of_lt hz), q⟩
theorem rd_cat {p r : Addr} {xs ys : List V} (hx : H p = some (.lst xs)) (hy : H r = some (.lst ys)) (hz : xs.length + ys.length ≤ 1000) (q : ∀ n, H n = none → Q (.ref n) (upd H n (.lst (xs ++ ys)))) : rCat (.ref p) (.ref r) H Q :=
  ⟨p, r, xs, ys, rfl, rfl, hx, hy, Nat.le_of_lt (small1000 hz), q⟩
theorem rd_max {K : PySem.W.Frag} {p : Addr} {ns : List Int} (hs : SqL K H p (ns.map V.int)) (h0 : 0 < ns.length) (q : ∀ m, m ∈ ns → (∀ y, y ∈ ns → y ≤ m) → Q (.int m) H) : rMax K [.ref p] H Q := ⟨p, ns, rfl, hs, h0, q⟩
theorem rd_minL {K : PySem.W.Frag} {p : Addr} {ns : List Int} (hs : SqL K H p (ns.map V.int)) (h0 : 0 < ns.length) (q : ∀ m, m ∈ ns → (∀ y, y ∈ ns → m ≤ y) → Q (.int m) H) : rMin K [.ref p] H Q := ⟨p, ns, rfl, hs, h0, q⟩
theorem rd_sum {K : PySem.W.Frag} {p : Addr} {ns : List Int} (hs : SqL K H p (ns.map V.int)) (q : Q (.int ns.sum) H) : rSum K [.ref p] H Q := ⟨p, ns, rfl, hs, q⟩
theorem rd_eqB {a b : Bool} (q : Q (.bl (decide (V.bl a = V.bl b))) H) : rEq (.bl a) (.bl b) H Q := ⟨rfl, q⟩
theorem rd_neB {a b : Bool} (q : Q (.bl (!decide (V.bl a = V.bl b))) H) : rNe (.bl a) (.bl b) H Q := ⟨rfl, q⟩
theorem rd_isB {a b : Bool} (q : Q (.bl (decide (a = b))) H) : rIsB (.bl a) (.bl b) H Q := ⟨a, b, rfl, rfl, q⟩
theorem rd_niB {a b : Bool} (q : Q (.bl (!decide (a = b))) H) : rNotB (.bl a) (.bl b) H Q := ⟨a, b, rfl, rfl, q⟩
/- tests whose answer is known -/
theorem rd_yes {p : Prop} [Decidable p] {A B : Prop} (hp : p) (h : A) : if decide p = true then A else B := by
  rw [if_pos (decide_eq_true hp)]
  exact h
theorem rd_nay {p : Prop} [Decidable p] {A B : Prop} (hp : ¬ p) (h : B) : if decide p = true then A else B := by
  rw [if_neg (by rw [decide_eq_false hp]; exact Bool.false_ne_true)]
  exact h
theorem rd_split {p : Prop} [Decidable p] {A B : Prop} (h1 : p → A) (h2 : ¬ p → B) : if decide p = true then A else B := by
  by_cases hp : p
  · exact rd_yes hp (h1 hp)
  · exact rd_nay hp (h2 hp)
theorem rd_splitN {p : Prop} [Decidable p] {A B : Prop} (h1 : ¬ p → A) (h2 : p → B) : if (!decide p) = true then A else B := by
  by_cases hp : p
  · rw [decide_eq_true hp]
    exact iteF (h2 hp)
  · rw [decide_eq_false hp]
    exact iteT (h1 hp)
theorem rd_nt {A B : Prop} (h : B) : if (!true) = true then A else B := iteF h
theorem rd_nf {A B : Prop} (h : A) : if (!false) = true then A else B := iteT h
theorem intEq : (V.int i = V.int j) = (i = j) := propext ⟨fun h => V.int.inj h, fun h => by rw [h]⟩
/- builtins by names of ours (the readings have a head then) -/
def rLenL (K : PySem.W.Frag) : List V → Hp → VK → Prop := fun xs H Q => ∃ p ys, xs = [.ref p] ∧ (SqL K H p ys ∨ SqT K H p ys) ∧ Q (.int ys.length) H
theorem call_lenL {X : Cx} : CallR X (.builtin "len") (rLenL X.K) := call_len_seq
theorem rd_len {K : PySem.W.Frag} {p : Addr} {ys : List V} (hs : SqL K H p ys) (q : Q (.int ys.length) H) : rLenL K [.ref p] H Q := ⟨p, ys, rfl, .inl hs, q⟩
theorem rd_lenT {K : PySem.W.Frag} {p : Addr} {ys : List V} (hs : SqT K H p ys) (q : Q (.int ys.length) H) : rLenL K [.ref p] H Q := ⟨p, ys, rfl, .inr hs, q⟩
def rLenZ : List V → Hp → VK → Prop := fun xs H Q => ∃ z, xs = [.str z] ∧ z.length ≤ sizeLine ∧ Q (.int z.length) H
theorem call_lenZ {X : Cx} : CallR X (.builtin "len") rLenZ := call_len_str
theorem rd_lenZ {z : Str} (h : z.length ≤ sizeLine) (q : Q (.int z.length) H) : rLenZ [.str z] H Q := ⟨z, rfl, h, q⟩
def rIntB : List V → Hp → VK → Prop := fun xs H Q => (∃ i, xs = [.int i] ∧ Q (.int i) H) ∨ ∃ k, xs = [.bl k] ∧ Q (.int (if k then 1 else 0)) H
theorem call_intB {X : Cx} : CallR X (.type "int") rIntB := call_int1
theorem rd_int (q : Q (.int (if k then 1 else 0)) H) : rIntB [.bl k] H Q := .inr ⟨k, rfl, q⟩
def rMin2 : List V → Hp → VK → Prop := fun xs H Q => ∃ i j, xs = [.int i, .int j] ∧ Q (.int (if j < i then j else i)) H
theorem call_minI {X : Cx} (hc : X.calm = true) : CallR X (.builtin "min") rMin2 := call_min2 hc
theorem rd_min (q : Q (.int (if j < i then j else i)) H) : rMin2 [.int i, .int j] H Q := ⟨i, j, rfl, q⟩
def rLst (K : PySem.W.Frag) : List V → Hp → VK → Prop := fun xs H Q => ∃ p ys, xs = [.ref p] ∧ (SqL K H p ys ∨ SqT K H p ys) ∧ ∀ l, H l = none → Q (.ref l) (upd H l (.lst ys))
theorem call_lstL {X : Cx} : CallR X (.type "list") (rLst X.K) := call_list_of
theorem rd_lstOf {K : PySem.W.Frag} {p : Addr} {ys : List V} (hs : SqL K H p ys) (q : ∀ l, H l = none → Q (.ref l) (upd H l (.lst ys))) : rLst K [.ref p] H Q := ⟨p, ys, rfl, .inl hs, q⟩
theorem rd_lstOfT {K : PySem.W.Frag} {p : Addr} {ys : List V} (hs : SqT K H p ys) (q : ∀ l, H l = none → Q (.ref l) (upd H l (.lst ys))) : rLst K [.ref p] H Q := ⟨p, ys, rfl, .inr hs, q⟩
/- isinstance -/
theorem rd_isi {K : PySem.W.Frag} {z w : V} {t' u' : Value} (ty : TyX K H z t') (kc : ClsV w u') (e : PySem.W.kitOne K t' u' = some k) (q : Q (.bl k) H) : rIsi K [z, w] H Q := ⟨z, w, t', u', k, rfl, kc, ty, e, q⟩
theorem rd_isiII {K : PySem.W.Frag} (q : Q (.bl true) H) : rIsi K [.int i, .ty "int"] H Q := rd_isi (.base (.int i)) (.ty _) (kit_ty (by decide +kernel)) q
theorem rd_isiIB {K : PySem.W.Frag} (q : Q (.bl false) H) : rIsi K [.int i, .ty "bool"] H Q := rd_isi (.base (.int i)) (.ty _) (kit_ty (by decide +kernel)) q
theorem rd_isiBB {K : PySem.W.Frag} (q : Q (.bl true) H) : rIsi K [.bl k, .ty "bool"] H Q := rd_isi (.base (.bl k)) (.ty _) (kit_ty (by decide +kernel)) q
theorem rd_isiL {K : PySem.W.Frag} {p : Addr} {ys : List V} (hs : H p = some (.lst ys)) (q : Q (.bl true) H) : rIsi K [.ref p, .ty "list"] H Q := rd_isi (.base (.lst hs)) (.ty _) (kit_ty (by decide +kernel)) q
theorem rd_isiT {K : PySem.W.Frag} {p : Addr} {ys : List V} (hs : H p = some (.tup ys)) (q : Q (.bl true) H) : rIsi K [.ref p, .ty "tuple"] H Q := rd_isi (.base (.tup hs)) (.ty _) (kit_ty (by decide +kernel)) q
theorem rd_isiS {K : PySem.W.Frag} {z : Str} (q : Q (.bl true) H) : rIsi K [.str z, .ty "str"] H Q := rd_isi (.base (.str z)) (.ty _) (kit_ty (by decide +kernel)) q
end
/-- a fact of a decided number at a literal list -/
theorem same_new {H : Hp} {p : Addr} {o : HO} (h : H p = none) : Same H (upd H p o) := fun b x e => by
  rw [upd_ne (ne_of_none e h)]
  exact e
theorem same_to {H H1 : Hp} {p : Addr} {o : HO} (a : Same H H1) (h : H1 p = none) : Same H (upd H1 p o) := a.trans (same_new h)
/-- one that H does not track may be written -/
theorem same_put {H H1 : Hp} {p : Addr} {o : HO} (a : Same H H1) (h : H p = none) : Same H (upd H1 p o) := fun b x e => by
  rw [upd_ne (ne_of_none e h)]
  exact a b x e
end Eb
namespace Eb
open PySem PySem.Spec PyProof.Rows L2
section
variable {H : Hp} {Q : VK} {K : PySem.W.Frag} {a D : Addr} {d : Option Addr} {b : Bool} {c : V} {cv : Value}
theorem rd_isH (st : Stood H a D d) (C : HeldC K D) (kc : ClsV c cv) (e : PySem.W.kitOne K (.ref D) cv = some b) (q : Q (.bl b) H) : rIsH K [.ref a, c] H Q := ⟨a, D, d, c, cv, b, rfl, st, C, kc, e, q⟩
theorem rd_isHT {tp : Addr} {cs : List V} {us : List Value} (st : Stood H a D d) (C : HeldC K D) (hT : H tp = some (.tup cs)) (kc : Paired ClsV cs us) (e : PySem.W.kitAny K (.ref D) us = some b) (q : Q (.bl b) H) : rIsHT K [.ref a, .ref tp] H Q :=
  ⟨a, D, tp, d, cs, us, b, rfl, st, C, hT, kc, e, q⟩
theorem stood_new (h : H a = none) : Stood (upd H a (ExH a (.ref D) none)) a D none := ⟨upd_same, fun _ z => nomatch z⟩
theorem Stood.to {p : Addr} {o : HO} (h : H p = none) (t : Stood H a D d) : Stood (upd H p o) a D d :=
  ⟨same_new h _ _ t.1, fun dd e => let ⟨fs, q⟩ := t.2 dd e; ⟨fs, same_new h _ _ q⟩⟩
end
end Eb
/-! more readings -/
namespace Eb
open PySem PySem.Spec PyProof.Rows L2
section
variable {σ : L2.St} {H : Hp} {Q : VK} {D : Ends} {v w x y : V} {ta te : TE} {tr : TA} {i j : Int}
theorem rd_aug {n : Nat} {ti : TIp} (h : σ[n]? = some (some x)) (q : te σ H fun y H1 => ti x y H1 fun z H2 => D.nx (σ.set n (some z)) H2) : tAug n te ti D σ H := ⟨x, h, q⟩
theorem rd_ipI {f : Int → Int → Int} (q : Q (.int (f i j)) H) : ipI f (.int i) (.int j) H Q := ⟨i, j, rfl, rfl, q⟩
theorem rd_par {n m : Nat} (q : tr σ H fun vs H1 => ∃ v w, vs = [v, w] ∧ D.nx ((σ.set n (some v)).set m (some w)) H1) : tPar n m tr D σ H := q
theorem rd_two {B : V → V → Prop} (q : B v w) : ∃ v' w', [v, w] = [v', w'] ∧ B v' w' := ⟨v, w, rfl, q⟩
theorem rd_izip {K : PySem.W.Frag} {R : It → Hp → Prop} (q : tr σ H fun vs H1 => ∃ a b xs ys, vs = [.ref a, .ref b] ∧ SqL K H1 a xs ∧ SqL K H1 b ys ∧ R (Itz K a b) H1) : iZip K tr σ H R := q
theorem rd_clear {p : Addr} {xs : List V} (h : H p = some (.lst xs)) (q : Q .non (upd H p (.lst []))) : rClear (.ref p) [] H Q := ⟨p, xs, rfl, rfl, h, q⟩
theorem rd_rep {p : Addr} {xs : List V} {k : Int} (h : H p = some (.lst xs)) (h0 : 0 ≤ k) (h1 : k ≤ 1000) (hl : xs.length * k.toNat ≤ 1000) (q : ∀ n, H n = none → Q (.ref n) (upd H n (.lst (List.replicate k.toNat xs).flatten))) : rRep (.ref p) (.int k) H Q :=
  ⟨p, k, xs, rfl, rfl, h, by omega, by omega, Nat.le_of_lt (small1000 hl), q⟩
theorem rd_index {K : PySem.W.Frag} {p : Addr} {ns : List Int} {m : Int} (hs : SqL K H p (ns.map V.int)) (hm : m ∈ ns) (q : Q (.int (ns.idxOf m : Nat)) H) : rIndex K (.ref p) [.int m] H Q := by
  have hlt : ns.idxOf m < ns.length := List.idxOf_lt_length_iff.mpr hm
  refine ⟨p, ns.map V.int, .int m, ns.idxOf m, .int m, rfl, rfl, hs, rfl, ?_, ?_, ?_, ?_, q⟩
  · rw [List.all_map]
    exact List.all_eq_true.mpr fun _ _ => rfl
  · rw [List.getElem?_map, List.getElem?_eq_getElem hlt, List.getElem_idxOf]
    rfl
  · show (m == m) = true
    exact beq_self_eq_true m
  · intro k z hk hz
    rw [List.getElem?_map, List.getElem?_eq_getElem (by omega)] at hz
    cases hz
    show (_ == m) = false
    have := List.not_of_lt_findIdx (p := (· == m)) (xs := ns) (i := k) hk
    simpa using this
theorem tab_succ (g : Nat → Int) (i : Nat) : (((List.range (i + 1)).map g).map V.int) = ((List.range i).map g).map V.int ++ [V.int (g i)] := by
  rw [List.range_succ, List.map_append, List.map_append]
  rfl
theorem tab_len (g : Nat → Int) (i : Nat) : (((List.range i).map g).map V.int).length = i := by
  rw [List.length_map, List.length_map, List.length_range]
theorem int_at {ns : List Int} {k : Nat} {z : Int} (h : ns[k]? = some z) : (ns.map V.int)[k]? = some (V.int z) := by
  rw [List.getElem?_map, h]
  rfl
theorem cut_to {ns : List Int} {k : Nat} : cutV (ns.map V.int) none (some (k : Int)) = (ns.take k).map V.int := by
  unfold cutV
  rw [HT.sIx_none, HT.sIx_nat, List.drop_zero, Nat.sub_zero, List.map_take, List.length_map]
  by_cases c : k ≤ ns.length
  · rw [Nat.min_eq_left c]
  · rw [Nat.min_eq_right (by omega), List.take_of_length_le (by rw [List.length_map]; exact Nat.le_refl _), List.take_of_length_le (by rw [List.length_map]; omega)]
theorem cut_from {ns : List Int} {k : Nat} : cutV (ns.map V.int) (some (k : Int)) none = (ns.drop k).map V.int := by
  unfold cutV
  rw [HT.sIx_none, HT.sIx_nat, List.map_drop, List.length_map]
  by_cases c : k ≤ ns.length
  · rw [Nat.min_eq_left c, List.take_of_length_le (by rw [List.length_drop, List.length_map]; exact Nat.le_refl _)]
  · rw [Nat.min_eq_right (by omega), List.drop_of_length_le (by rw [List.length_map]; exact Nat.le_refl _), List.drop_of_length_le (by rw [List.length_map]; omega), List.take_nil]
theorem cut_mid {ns : List Int} {a b : Nat} (h : a ≤ b) (hb : b ≤ ns.length) : cutV (ns.map V.int) (some (a : Int)) (some (b : Int)) = ((ns.drop a).take (b - a)).map V.int := by
  unfold cutV
  rw [HT.sIx_nat, HT.sIx_nat, List.length_map, Nat.min_eq_left (show a ≤ ns.length by omega), Nat.min_eq_left hb, List.map_take, List.map_drop]
end
/- rules whose reading names K alone (for what stands in a comprehension) -/
section
variable {X : Cx} {K : PySem.W.Frag}
theorem ixK (h : X.K = K) : IxR X (rIxL K) := by subst h; exact ix_list
theorem ixTK (h : X.K = K) : IxR X (rIxT K) := by subst h; exact ix_tup
theorem slK (h : X.K = K) : SlR X (rSlL K) := by subst h; exact sl_list
theorem sumK (h : X.K = K) (hc : X.calm = true) : CallR X (.builtin "sum") (rSum K) := by subst h; exact cr_sum hc
theorem lenK (h : X.K = K) : CallR X (.builtin "len") (rLenL K) := by subst h; exact call_lenL
theorem bt_sum : bootBuiltins "sum" = some (.builtin "sum") := by decide +kernel
end
section
variable {X : Cx} {σ : L2.St} {H : Hp} {Q : VK} {tr : TA} {D : Ends} {v : V} {p : Addr} {R : It → Hp → Prop}
def rIsN : R2 := fun x y H Q => y = .non ∧ Q (.bl (decide (x = .non))) H
def rNotN : R2 := fun x y H Q => y = .non ∧ Q (.bl (!decide (x = .non))) H
theorem opIsN : OpR X (compareOp .Is) rIsN := op_isN
theorem opNotN : OpR X (compareOp .IsNot) rNotN := op_notN
theorem rd_isNN (q : Q (.bl true) H) : rIsN .non .non H Q := ⟨rfl, q⟩
theorem rd_isNR (q : Q (.bl false) H) : rIsN (.ref p) .non H Q := ⟨rfl, q⟩
theorem rd_notNN (q : Q (.bl false) H) : rNotN .non .non H Q := ⟨rfl, q⟩
theorem rd_notNR (q : Q (.bl true) H) : rNotN (.ref p) .non H Q := ⟨rfl, q⟩
theorem rd_rng2 (q : tr σ H fun vs H1 => ∃ i j : Int, vs = [.int i, .int j] ∧ (-(2 ^ 62) ≤ i ∧ i < 2 ^ 62 ∧ -(2 ^ 62) ≤ j ∧ j < 2 ^ 62) ∧ R (Itr i (j - i).toNat) H1) : iRng2 tr σ H R := q
theorem rd_it {K : PySem.W.Frag} {tl : TE} (q : tl σ H fun x H1 => ∃ a, x = .ref a ∧ (∃ xs, SqT K H1 a xs) ∧ R (Itt K a) H1) : iTup K tl σ H R := q
end
/-- a statement of a block by what holds behind it -/
theorem rd_cut {t u : TS} {D : Ends} {σ : L2.St} {H : Hp} (P : L2.St → Hp → Prop) (h1 : ∀ U : L2.St → Hp → Prop, (∀ σ' H', P σ' H' → U σ' H') → t { D with nx := U } σ H) (h2 : ∀ σ' H', P σ' H' → u D σ' H') : tSeq t u D σ H := h1 (u D) h2
theorem ix_ok {n : Nat} {i : Int} (h0 : 0 ≤ i) (h1 : i < n) : ixN n i = some i.toNat := by
  unfold ixN
  rw [if_pos h0, if_pos (by omega)]
theorem cut_any (ns : List Int) (lo hi : Option Int) : ∃ ms : List Int, cutV (ns.map V.int) lo hi = ms.map V.int ∧ (∀ x ∈ ms, x ∈ ns) ∧ ms.length ≤ ns.length := by
  refine ⟨(ns.drop (HT.sIx ns.length 0 lo)).take (HT.sIx ns.length ns.length hi - HT.sIx ns.length 0 lo), ?_, fun x hx => List.mem_of_mem_drop (List.mem_of_mem_take hx), ?_⟩
  · unfold cutV
    rw [List.length_map, List.map_take, List.map_drop]
  · rw [List.length_take, List.length_drop]
    omega
theorem cut_len_from {ns ms : List Int} {k : Nat} {hi : Int} (h : cutV (ns.map V.int) (some (k : Int)) (some hi) = ms.map V.int) (h0 : 0 ≤ hi) : ms.length ≤ hi.toNat - k := by
  have := congrArg List.length h
  obtain ⟨j, rfl⟩ : ∃ j : Nat, hi = j := ⟨_, (Int.toNat_of_nonneg h0).symm⟩
  unfold cutV at this
  rw [HT.sIx_nat, HT.sIx_nat, List.length_take, List.length_drop, List.length_map, List.length_map] at this
  rw [Int.toNat_natCast]
  omega
end Eb
/- zip of a list and a text, walked by a for -/
namespace Eb
open PySem PySem.Spec PyProof.Rows L2
def Itzs (K : PySem.W.Frag) (a : Addr) (x : Str) : It :=
  { go := fun i H => ∃ (xs : List V) (y : V), SqL K H a xs ∧ xs[i]? = some y ∧ i < x.cps.size
    yld := fun i H v H' => ∃ (T : Addr) (y : V) (c : Nat), v = .ref T ∧ H T = none ∧ H' = upd H T (.tup [y, .str ⟨#[c]⟩]) ∧ (∀ xs, SqL K H a xs → xs[i]? = some y) ∧ x.cps[i]? = some c
    stop := fun i H => ∃ xs : List V, SqL K H a xs ∧ i = min xs.length x.cps.size }
/-- the records of such a walk, begun at N -/
abbrev zlsAt (N a : Nat) (x : Str) (t : Tok) (i : Nat) (h : Heap) : Prop :=
  IsZip h (N + 4) (N + 2) (N + 3) .none ∧ IsTupOf2 h (N + 2) (.ref N) (.ref (N + 1)) ∧ (∃ a1 a2, IsTupOf2 h (N + 3) a1 a2) ∧ h.IsListIter N a i ∧ h.IsStrIter (N + 1) (strIterType x) x t i
theorem zls_goes {P : Program} {w : World} {A : Around} {elts : List Expr} {kk : Nat} {tpos : Pos} {N a : Nat} {x : Str} {t : Tok} (hh : A.handled = none) (ha : a < N) (its : Array Value) :
    GoesN P w A (.Tuple elts kk tpos) (N + 4) ((N + 4) :: (N + 2) :: (N + 3) :: ([N, a] ++ [N + 1])) [N + 4, N + 3, N, N + 1] (min its.size x.cps.size)
      (fun i h₀ v h => ∃ T y z, v = .ref T ∧ h₀.objs.size ≤ T ∧ its[i]? = some y ∧ (∃ c u, x.cps[i]? = some c ∧ z = .str ⟨#[c]⟩ u) ∧ h.IsTuple T #[y, z])
      (fun i h => IsZip h (N + 4) (N + 2) (N + 3) .none ∧ IsTupOf2 h (N + 2) (.ref N) (.ref (N + 1)) ∧ (∃ a1 a2, IsTupOf2 h (N + 3) a1 a2) ∧ (h.IsListIter N a i ∧ h.IsList a its) ∧ h.IsStrIter (N + 1) (strIterType x) x t i) :=
  GoesN.zip2 (zip_sep2 (N := N) (fp1 := [a]) (fp2 := []) (fun b hb => by rw [List.mem_singleton.mp hb]; exact ha) (fun b hb => nomatch hb))
    (Draws.list (show A.in1.handled = none from hh) N a (Nat.ne_of_lt ha) its) (Draws.text (show A.in1.handled = none from hh) (N + 1) x t)
theorem zls_turn {P : Program} {w : World} {K : PySem.W.Frag} {elts : List Expr} {kk : Nat} {tpos : Pos} {N a : Nat} {x : Str} {t : Tok} (ha : a < N) :
    Turn P w K (.Tuple elts kk tpos) (Itzs K a x) [N + 4, N + 2, N + 3, N, N + 1] (N + 4) (zlsAt N a x t) where
  mem := List.mem_cons_self
  obj := fun i h st b hb => by
    obtain ⟨hz, h2, ⟨a1, a2, h3⟩, ⟨o4, e4, _, d4⟩, ⟨o5, e5, _, d5⟩⟩ := st
    have cs : b = N + 4 ∨ b = N + 2 ∨ b = N + 3 ∨ b = N ∨ b = N + 1 := by simpa using hb
    rcases cs with q | q | q | q | q <;> rw [q]
    · exact ⟨_, hz, fun v r => nomatch r⟩
    · exact ⟨_, h2, fun v r => nomatch r⟩
    · exact ⟨_, h3, fun v r => nomatch r⟩
    · exact ⟨o4, e4, fun v r => by rw [d4] at r; cases r⟩
    · exact ⟨o5, e5, fun v r => by rw [d5] at r; cases r⟩
  keep := fun i h h' st k => by
    obtain ⟨hz, h2, ⟨a1, a2, h3⟩, h4, ⟨o5, e5, r5⟩⟩ := st
    exact ⟨k _ (by simp) _ hz, k _ (by simp) _ h2, ⟨a1, a2, k _ (by simp) _ h3⟩, h4.at fun o q => k _ (by simp) o q, ⟨o5, k _ (by simp) _ e5, r5⟩⟩
  item := by
    intro X hP hw hK hc i pins s σ H E I hf st hg
    subst hP hw hK
    obtain ⟨xs, y, hq, hy, hi⟩ := hg
    obtain ⟨its, rv, pl, _⟩ := I.list hq
    obtain ⟨u, hu, ru⟩ := rv.get hy
    have lx : i < xs.length := (List.getElem?_eq_some_iff.mp hy).1
    have li : i < its.toArray.size := by
      have := rv.length
      rw [List.size_toArray]
      omega
    have live : ∀ b ∈ [N + 4, N + 2, N + 3, N, N + 1], b < s.heap.objs.size := fun b hb => by
      obtain ⟨hz, h2, ⟨a1, a2, h3⟩, ⟨o4, e4, _⟩, ⟨o5, e5, _⟩⟩ := st
      have cs : b = N + 4 ∨ b = N + 2 ∨ b = N + 3 ∨ b = N ∨ b = N + 1 := by simpa using hb
      rcases cs with q | q | q | q | q <;> rw [q]
      · exact Heap.lt_size hz
      · exact Heap.lt_size h2
      · exact Heap.lt_size h3
      · exact Heap.lt_size e4
      · exact Heap.lt_size e5
    refine (zls_goes (P := X.prog) (w := X.w) (elts := elts) (kk := kk) (tpos := tpos) (x := x) (t := t) (I.ok.hd hc) ha its.toArray).goes i s _ E (Nat.lt_min.mpr ⟨li, hi⟩) ⟨st.1, st.2.1, st.2.2.1, ⟨st.2.2.2.1, pl.isList⟩, st.2.2.2.2⟩ fun v h' tk hY st' kk' _ => ?_
    obtain ⟨T, y', z, rfl, hT, hy', ⟨c, tc, hcx, rfl⟩, hTup⟩ := hY
    have ey : y' = u := by
      have e1 : its.toArray[i]? = some u := by simpa using hu
      rw [hy'] at e1
      exact Option.some.inj e1
    subst ey
    have new : ObjOk X.prog X.w (upd H T (.tup [y, .str ⟨#[c]⟩])) h' T (.tup [y, .str ⟨#[c]⟩]) :=
      ⟨by show 2 ≤ sizeLine; decide, [y', .str ⟨#[c]⟩ tc], .cons ru (.cons ⟨tc, rfl⟩ .nil), hTup⟩
    have I1 := I.turnedNew (t' := tk) (ch := [N + 4, N + 2, N + 3, N, N + 1]) (fun b o hb q => kk' b o (fun m => hb (by
      have cs : b = N + 4 ∨ b = N + 3 ∨ b = N ∨ b = N + 1 := by simpa using m
      rcases cs with q | q | q | q <;> simp [q])) q) hf hT new
    refine ⟨.ref T, _, I1, rfl, ⟨T, y, c, rfl, I.hok.fresh hT, rfl, fun l hl => by rw [I.list_inj hl hq]; exact hy, hcx⟩, ⟨st'.1, st'.2.1, st'.2.2.1, st'.2.2.2.1.1, st'.2.2.2.2⟩, fun b hb => ?_⟩
    rw [upd_ne (Nat.ne_of_lt (Nat.lt_of_lt_of_le (live b hb) hT))]
    exact (hf b hb).1
  done := by
    intro X hP hw hK hc i pins s σ H E I hf st hg
    subst hP hw hK
    obtain ⟨xs, hq, rfl⟩ := hg
    obtain ⟨its, rv, pl, _⟩ := I.list hq
    have ln : its.toArray.size = xs.length := by rw [List.size_toArray, rv.length]
    have G := (zls_goes (P := X.prog) (w := X.w) (elts := elts) (kk := kk) (tpos := tpos) (x := x) (t := t) (I.ok.hd hc) ha its.toArray)
    rw [ln] at G
    exact G.stops s (fun s1 => Inv X pins σ H s1) E ⟨st.1, st.2.1, st.2.2.1, ⟨st.2.2.2.1, pl.isList⟩, st.2.2.2.2⟩ fun h' tk kk' _ => I.turnedL (t' := tk) (ch := [N + 4, N + 2, N + 3, N, N + 1]) (fun b o hb q => kk' b o (fun m => hb (by
      have cs : b = N + 4 ∨ b = N + 3 ∨ b = N ∨ b = N + 1 := by simpa using m
      rcases cs with q | q | q | q <;> simp [q])) q) hf
  self := fun A i s Q E st h => wpAny_pyIter_zip st.1 h
def iZipLS (K : PySem.W.Frag) (ta : TA) : TI := fun σ H R => ta σ H fun vs H1 => ∃ (a : Addr) (x : Str) (xs : List V), vs = [.ref a, .str x] ∧ SqL K H1 a xs ∧ R (Itzs K a x) H1
theorem pi_zipLS {X : Cx} {e e2 : Expr} {ta : TA} {p pos tpos : Pos} {elts : List Expr} {kk : Nat} (hg : Gl X "zip") (hm : X.mg "zip" = none) (ha : PA X [e, e2] ta)
    (hs : starEach [e, e2] X.env = (false, eval e X.env) :: starEach [e2] X.env := by rfl) (hpl : (backTo pos (starEach [e2] X.env)).any (·.1) = false := by rfl) :
    PI X (.Tuple elts kk tpos) (.Call (.Name "zip" p) [e, e2] [] pos) (iZipLS X.K ta) := by
  constructor
  intro pins s σ H R I h
  refine Call_ (ld_blt I hg hm PyProof.Rows.boot_zip (PyProof.Rows.callWith_type1 (thn (ha.run pos pins s σ H _ I h) fun us s1 hh => ?_) hs hpl))
  obtain ⟨vs, H1, I1, r1, a, x, xs, rfl, hq, q⟩ := hh
  obtain ⟨u1, u2, rfl, ra, rx⟩ := vals2 r1
  cases (show u1 = Value.ref a from ra)
  obtain ⟨t, rfl⟩ := (show ∃ t, u2 = Value.str x t from rx)
  obtain ⟨its, rv, pl, _⟩ := I1.list hq
  refine zip_begins2 (begins_list a its.toArray) (begins_text x t) pl.isList trivial fun h' hz h2 h3 h4 h5 _ hk => wpAny_pyIter_zip hz ?_
  refine ⟨_, _, _, _, H1, rfl, I1.kept (t' := s1.toks) hk, zls_turn (x := x) (t := t) pl.lt, ⟨hz, h2, ⟨_, _, h3⟩, ⟨_, h4, rfl, rfl⟩, ⟨_, h5, rfl, rfl⟩⟩, fun b hb => ?_, q⟩
  have le : s1.heap.objs.size ≤ b := by
    have cs : b = s1.heap.objs.size + 4 ∨ b = s1.heap.objs.size + 2 ∨ b = s1.heap.objs.size + 3 ∨ b = s1.heap.objs.size ∨ b = s1.heap.objs.size + 1 := by simpa using hb
    rcases cs with q | q | q | q | q <;> rw [q]
    · exact Nat.le_add_right _ _
    · exact Nat.le_add_right _ _
    · exact Nat.le_add_right _ _
    · exact Nat.le_refl _
    · exact Nat.le_add_right _ _
  exact I1.fpOk le (I1.hok.fresh le)
/-- a for over zip(list, text) of one length: the pair is a new tuple -/
theorem for_zls {K : PySem.W.Frag} {a : Addr} {x : Str} {xs : List V} {g : TG} {tb : TS} {D : Ends} {σ : L2.St} {H : Hp} (hn : xs.length = x.cps.size) (Pv : Nat → L2.St → Hp → Prop) (h0 : Pv 0 σ H) (hl : ∀ i σ H, Pv i σ H → SqL K H a xs)
    (hs : ∀ i y c T σ H, xs[i]? = some y → x.cps[i]? = some c → H T = none → Pv i σ H → g (.ref T) σ (upd H T (.tup [y, .str ⟨#[c]⟩])) fun σ2 H2 => tb { D with nx := Pv (i + 1), ct := Pv (i + 1), bk := D.nx } σ2 H2) (hd : ∀ σ H, Pv xs.length σ H → D.nx σ H) :
    ∃ W : Nat → Nat → L2.St → Hp → Prop, (∃ m, W 0 m σ H) ∧ ∀ i m σ H, W i m σ H →
      ((Itzs K a x).stop i H ∧ D.nx σ H) ∨ ((Itzs K a x).go i H ∧ ∃ N : L2.St → Hp → Prop, (∀ σ' H', N σ' H' → ∃ m', m' < m ∧ W (i + 1) m' σ' H') ∧ ∀ v H', (Itzs K a x).yld i H v H' → g v σ H' fun σ2 H2 => tb { D with nx := N, ct := N, bk := D.nx } σ2 H2) := by
  refine ⟨fun i m σ H => m = xs.length - i ∧ i ≤ xs.length ∧ Pv i σ H, ⟨_, rfl, Nat.zero_le _, h0⟩, ?_⟩
  rintro i m σ H ⟨rfl, hi, p⟩
  have q := hl i σ H p
  by_cases c : i < xs.length
  · refine .inr ⟨⟨xs, xs[i], q, List.getElem?_eq_getElem c, by omega⟩, Pv (i + 1), fun σ' H' p' => ⟨_, by omega, rfl, c, p'⟩, ?_⟩
    rintro v H' ⟨T, y, cc, rfl, hT, rfl, h1, h2⟩
    exact hs i y cc T σ H (h1 xs q) h2 hT p
  · have e : i = xs.length := by omega
    subst e
    exact .inl ⟨⟨xs, q, by rw [hn, Nat.min_self]⟩, hd σ H p⟩
/-- a for over a text -/
theorem for_sign {x : Str} {g : TG} {tb : TS} {D : Ends} {σ : L2.St} {H : Hp} (Pv : Nat → L2.St → Hp → Prop) (h0 : Pv 0 σ H)
    (hs : ∀ i c σ H, x.cps[i]? = some c → Pv i σ H → g (.str ⟨#[c]⟩) σ H fun σ2 H2 => tb { D with nx := Pv (i + 1), ct := Pv (i + 1), bk := D.nx } σ2 H2) (hd : ∀ σ H, Pv x.cps.size σ H → D.nx σ H) :
    ∃ W : Nat → Nat → L2.St → Hp → Prop, (∃ m, W 0 m σ H) ∧ ∀ i m σ H, W i m σ H →
      ((Its x).stop i H ∧ D.nx σ H) ∨ ((Its x).go i H ∧ ∃ N : L2.St → Hp → Prop, (∀ σ' H', N σ' H' → ∃ m', m' < m ∧ W (i + 1) m' σ' H') ∧ ∀ v H', (Its x).yld i H v H' → g v σ H' fun σ2 H2 => tb { D with nx := N, ct := N, bk := D.nx } σ2 H2) := by
  refine ⟨fun i m σ H => m = x.cps.size - i ∧ i ≤ x.cps.size ∧ Pv i σ H, ⟨_, rfl, Nat.zero_le _, h0⟩, ?_⟩
  rintro i m σ H ⟨rfl, hi, p⟩
  by_cases c : i < x.cps.size
  · refine .inr ⟨c, Pv (i + 1), fun σ' H' p' => ⟨_, by omega, rfl, c, p'⟩, ?_⟩
    rintro v H' ⟨rfl, cc, h1, rfl⟩
    exact hs i cc σ _ h1 p
  · have e : i = x.cps.size := by omega
    subst e
    exact .inl ⟨Nat.le_refl _, hd σ H p⟩
/-- a comprehension over a text -/
theorem lc_sign {x : Str} {g : TG} {tt : TT} {te : TE} {vs : List Nat} {σ : L2.St} {H1 : Hp} {D : Addr} {Qd : Hp → Prop} (Pv : Nat → Hp → Prop) (h0 : Pv 0 (upd H1 D (.lst [])))
    (hs : ∀ i c H, x.cps[i]? = some c → Pv i H → g (.str ⟨#[c]⟩) (wipe σ vs) H fun σ2 H2 => wipe σ2 vs = wipe σ vs ∧ tt σ2 H2 fun b H3 =>
      if b = true then te σ2 H3 fun y H4 => ∃ acc, H4 D = some (.lst acc) ∧ acc.length < sizeLine ∧ Pv (i + 1) (upd H4 D (.lst (acc ++ [y]))) else Pv (i + 1) H3) (hd : ∀ H, Pv x.cps.size H → Qd H) :
    ∃ W : Nat → Nat → Hp → Prop, (∃ m, W 0 m (upd H1 D (.lst []))) ∧ ∀ i m H, W i m H →
      ((Its x).stop i H ∧ Qd H) ∨ ((Its x).go i H ∧ ∃ Nx : Hp → Prop, (∀ H', Nx H' → ∃ m', m' < m ∧ W (i + 1) m' H') ∧ ∀ v H', (Its x).yld i H v H' → g v (wipe σ vs) H' fun σ2 H2 => wipe σ2 vs = wipe σ vs ∧ tt σ2 H2 fun b H3 =>
        if b = true then te σ2 H3 fun y H4 => ∃ acc, H4 D = some (.lst acc) ∧ acc.length < sizeLine ∧ Nx (upd H4 D (.lst (acc ++ [y]))) else Nx H3) := by
  refine ⟨fun i m H => m = x.cps.size - i ∧ i ≤ x.cps.size ∧ Pv i H, ⟨_, rfl, Nat.zero_le _, h0⟩, ?_⟩
  rintro i m H ⟨rfl, hi, p⟩
  by_cases c : i < x.cps.size
  · refine .inr ⟨c, Pv (i + 1), fun H' p' => ⟨_, by omega, rfl, c, p'⟩, ?_⟩
    rintro v H' ⟨rfl, cc, h1, rfl⟩
    exact hs i cc _ h1 p
  · have e : i = x.cps.size := by omega
    subst e
    exact .inl ⟨Nat.le_refl _, hd H p⟩
end Eb
namespace Eb
open PySem PySem.Spec PyProof.Rows L2
theorem rd_izls {K : PySem.W.Frag} {ta : TA} {σ : L2.St} {H : Hp} {R : It → Hp → Prop} (q : ta σ H fun vs H1 => ∃ (a : Addr) (x : Str) (xs : List V), vs = [.ref a, .str x] ∧ SqL K H1 a xs ∧ R (Itzs K a x) H1) : iZipLS K ta σ H R := q
end Eb
namespace Eb
open PySem PySem.Spec PyProof.Rows L2
local macro_rules | `(tactic| walk_at "rd") => `(tactic| (first
  | with_reducible refine rd_seq ?_ | with_reducible refine rd_asg ?_ | with_reducible refine rd_op ?_ | ((with_reducible refine' rd_var ?hrd ?_); (case hrd => rfl)) | with_reducible refine rd_c ?_
  | with_reducible refine rd_I0 ?_ | ((with_reducible refine rd_I (C := CDiv) ?hrd ?_); (case hrd => exact ⟨by decide, by decide⟩)) | ((with_reducible refine rd_I (C := fun _ j => 0 < j) ?hrd ?_); (case hrd => (first | omega | decide | assumption)))
  | ((with_reducible refine rd_I (C := CPow) ?hrd ?_); (case hrd => exact ⟨by decide, by decide, by decide⟩))
  | ((with_reducible refine rd_I (C := CMul) ?hrd ?_); (case hrd => (first | exact .inl ⟨by decide, by decide⟩ | exact .inr ⟨by decide, by decide⟩ | (unfold CMul; omega))))
  | with_reducible refine rd_U ?_ | with_reducible refine rd_un ?_ | with_reducible refine rd_eqI ?_ | with_reducible refine rd_neI ?_ | with_reducible refine rd_cons ?_ | with_reducible refine rd_nil ?_ | with_reducible refine rd_cb ?_
  | with_reducible refine rd_call ?_ | with_reducible refine rd_callS ?_ | with_reducible refine rd_test ?_ | with_reducible refine rd_tb ?_ | with_reducible refine rd_bl ?_ | with_reducible refine rd_and ?_ | with_reducible refine rd_or ?_
  | with_reducible refine rd_not ?_ | with_reducible refine rd_andV ?_ | with_reducible refine rd_orV ?_ | with_reducible refine rd_notV ?_ | with_reducible refine rd_ifE ?_ | with_reducible refine rd_gn ?_ | with_reducible refine rd_ret ?_
  | with_reducible refine rd_ifS ?_ | with_reducible refine rd_drop ?_ | with_reducible refine rd_next ?_ | with_reducible refine rd_tup ?_ | with_reducible refine rd_lst ?_ | with_reducible refine rd_sl ?_ | with_reducible refine rd_no ?_
  | ((with_reducible refine' rd_len ?hrd ?_); (case hrd => assumption)) | ((with_reducible refine' rd_lenT ?hrd ?_); (case hrd => assumption)) | with_reducible refine rd_int ?_ | with_reducible refine rd_min ?_ | with_reducible refine rd_isiII ?_ | with_reducible refine rd_isiIB ?_ | with_reducible refine rd_isiBB ?_ | with_reducible refine rd_isiS ?_ | ((with_reducible refine' rd_isiL ?hrd ?_); (case hrd => assumption)) | ((with_reducible refine' rd_isiT ?hrd ?_); (case hrd => assumption))
  | with_reducible refine rd_for ?_ | with_reducible refine rd_lc ?_ | with_reducible refine rd_tyes ?_ | with_reducible refine rd_rng1 ?_ | with_reducible refine rd_gsub ?_ | with_reducible refine rd_lrg ?_ | with_reducible refine rd_rg1 ?_ | with_reducible refine rd_eqZ ?_ | with_reducible refine rd_neZ ?_ | with_reducible refine rd_chain ?_ | with_reducible refine rd_m1 ?_ | with_reducible refine rd_isZ ?_ | ((with_reducible refine' rd_gtup ?hrd ?hrn ?_); (case hrd => assumption); (case hrn => rfl)) | with_reducible refine rd_gcons ?_ | with_reducible refine rd_gnil ?_ | with_reducible refine rd_is ?_ | with_reducible refine rd_isx ?_
  | with_reducible refine rd_il ?_ | with_reducible refine rd_part ?_ | with_reducible refine rd_partI ?_ | with_reducible refine rd_bm ?_ | with_reducible refine rd_bm0 ?_ | with_reducible refine rd_eqB ?_ | with_reducible refine rd_neB ?_ | with_reducible refine rd_isB ?_ | with_reducible refine rd_niB ?_
  | with_reducible refine rd_nt ?_ | with_reducible refine rd_nf ?_ | with_reducible refine iteT ?_ | with_reducible refine iteF ?_
  | ((with_reducible refine' rd_aug ?hrd ?_); (case hrd => rfl)) | with_reducible refine rd_ipI ?_ | with_reducible refine rd_par ?_ | with_reducible refine rd_two ?_ | with_reducible refine rd_izip ?_
  | with_reducible refine rd_isNN ?_ | with_reducible refine rd_isNR ?_ | with_reducible refine rd_notNN ?_ | with_reducible refine rd_notNR ?_ | with_reducible refine rd_rng2 ?_))
def topS (i : Nat) : Stmt := PySem.Challenge.pw_evenbeat_k05_texts.main.body.getD i (.Pass ⟨0, 0, 0, 0⟩)
abbrev s_shown : Stmt := topS 8
abbrev N_shown : List Str := ["row", "one"]
theorem sc_shown : FnScope N_shown ["row"] (defScope s_shown) := ⟨rfl, rfl, rfl, by decide +kernel, rfl, by decide +kernel, by decide +kernel⟩
abbrev s_read : Stmt := topS 9
abbrev N_read : List Str := ["text", "row", "sign"]
theorem sc_read : FnScope N_read ["text"] (defScope s_read) := ⟨rfl, rfl, rfl, by decide +kernel, rfl, by decide +kernel, by decide +kernel⟩
abbrev s_cell_at : Stmt := topS 11
abbrev N_cell_at : List Str := ["_law_script", "_law_k"]
theorem sc_cell_at : FnScope N_cell_at ["_law_script", "_law_k"] (defScope s_cell_at) := ⟨rfl, rfl, rfl, by decide +kernel, rfl, by decide +kernel, by decide +kernel⟩
abbrev s_sign_by : Stmt := topS 12
abbrev N_sign_by : List Str := ["_law_cell", "_law_some"]
theorem sc_sign_by : FnScope N_sign_by ["_law_cell"] (defScope s_sign_by) := ⟨rfl, rfl, rfl, by decide +kernel, rfl, by decide +kernel, by decide +kernel⟩
abbrev s_signs : Stmt := topS 13
abbrev N_signs : List Str := ["_law_script", "_law_seed", "_law_signs_here", "_law_k", "_law_bit", "_law_way", "_law_at"]
theorem sc_signs : FnScope N_signs ["_law_script"] (defScope s_signs) := ⟨rfl, rfl, rfl, by decide +kernel, rfl, by decide +kernel, by decide +kernel⟩
abbrev s_good : Stmt := topS 14
abbrev N_good : List Str := ["_law_signs_here", "_law_sign"]
theorem sc_good : FnScope N_good ["_law_signs_here"] (defScope s_good) := ⟨rfl, rfl, rfl, by decide +kernel, rfl, by decide +kernel, by decide +kernel⟩
abbrev s_refused : Stmt := topS 15
abbrev N_refused : List Str := ["_law_signs_here", "_law_error", "e"]
theorem sc_refused : FnScope N_refused ["_law_signs_here"] (defScope s_refused) := ⟨rfl, rfl, rfl, by decide +kernel, rfl, by decide +kernel, by decide +kernel⟩
abbrev s_is_row : Stmt := topS 16
abbrev N_is_row : List Str := ["_law_found", "_law_signs_here", "_law_one", "_law_sign"]
theorem sc_is_row : FnScope N_is_row ["_law_found", "_law_signs_here"] (defScope s_is_row) := ⟨rfl, rfl, rfl, by decide +kernel, rfl, by decide +kernel, by decide +kernel⟩
abbrev s_law : Stmt := topS 17
abbrev N_law : List Str := ["_law_script", "_law_signs_here", "_law_row", "_law_again", "_law_found", "_law_sign"]
theorem sc_law : FnScope N_law ["_law_script"] (defScope s_law) := ⟨rfl, rfl, rfl, by decide +kernel, rfl, by decide +kernel, by decide +kernel⟩
structure Txt (K : PySem.W.Frag) (mg : Str → Option Value) where
  f_shown : Addr
  fd_shown : FuncData
  F_shown : Fun K "shown" "shown" s_shown f_shown fd_shown
  k_shown : PySem.W.keepIn K (.ref f_shown) = true
  g_shown : mg "shown" = some (.ref f_shown)
  b_shown : Binds K fd_shown ["row"] []
  f_read : Addr
  fd_read : FuncData
  F_read : Fun K "read" "read" s_read f_read fd_read
  k_read : PySem.W.keepIn K (.ref f_read) = true
  g_read : mg "read" = some (.ref f_read)
  b_read : Binds K fd_read ["text"] []
  f_cell_at : Addr
  fd_cell_at : FuncData
  F_cell_at : Fun K "_law_cell_at" "_law_cell_at" s_cell_at f_cell_at fd_cell_at
  k_cell_at : PySem.W.keepIn K (.ref f_cell_at) = true
  g_cell_at : mg "_law_cell_at" = some (.ref f_cell_at)
  b_cell_at : Binds K fd_cell_at ["_law_script", "_law_k"] []
  f_sign_by : Addr
  fd_sign_by : FuncData
  F_sign_by : Fun K "_law_sign_by" "_law_sign_by" s_sign_by f_sign_by fd_sign_by
  k_sign_by : PySem.W.keepIn K (.ref f_sign_by) = true
  g_sign_by : mg "_law_sign_by" = some (.ref f_sign_by)
  b_sign_by : Binds K fd_sign_by ["_law_cell"] []
  f_signs : Addr
  fd_signs : FuncData
  F_signs : Fun K "_law_signs" "_law_signs" s_signs f_signs fd_signs
  k_signs : PySem.W.keepIn K (.ref f_signs) = true
  g_signs : mg "_law_signs" = some (.ref f_signs)
  b_signs : Binds K fd_signs ["_law_script"] []
  f_good : Addr
  fd_good : FuncData
  F_good : Fun K "_law_good" "_law_good" s_good f_good fd_good
  k_good : PySem.W.keepIn K (.ref f_good) = true
  g_good : mg "_law_good" = some (.ref f_good)
  b_good : Binds K fd_good ["_law_signs_here"] []
  f_refused : Addr
  fd_refused : FuncData
  F_refused : Fun K "_law_refused" "_law_refused" s_refused f_refused fd_refused
  k_refused : PySem.W.keepIn K (.ref f_refused) = true
  g_refused : mg "_law_refused" = some (.ref f_refused)
  b_refused : Binds K fd_refused ["_law_signs_here"] []
  f_is_row : Addr
  fd_is_row : FuncData
  F_is_row : Fun K "_law_is_row" "_law_is_row" s_is_row f_is_row fd_is_row
  k_is_row : PySem.W.keepIn K (.ref f_is_row) = true
  g_is_row : mg "_law_is_row" = some (.ref f_is_row)
  b_is_row : Binds K fd_is_row ["_law_found", "_law_signs_here"] []
  m_int : mg "int" = none
  m_len : mg "len" = none
  m_range : mg "range" = none
  m_isinstance : mg "isinstance" = none
  m_ValueError : mg "ValueError" = none
  m_zip : mg "zip" = none
  m_bool : mg "bool" = none
  m_list : mg "list" = none
  m_str : mg "str" = none
  tok_MOST : Tok
  gv_MOST : mg "MOST" = some (.int 120 tok_MOST)
  c_BeatError : Addr
  gc_BeatError : mg "BeatError" = some (.ref c_BeatError)
  c_NoRow : Addr
  gc_NoRow : mg "NoRow" = some (.ref c_NoRow)
  c_NoStroke : Addr
  gc_NoStroke : mg "NoStroke" = some (.ref c_NoStroke)
  c_NoWheel : Addr
  gc_NoWheel : mg "NoWheel" = some (.ref c_NoWheel)
  c_Uneven : Addr
  gc_Uneven : mg "Uneven" = some (.ref c_Uneven)
  x_NoRow : PySem.W.excIn K c_NoRow [.type "ValueError", .type "Exception", .type "BaseException", .type "object"] "ValueError.__new__" = true
  kc_NoRow : PySem.W.keepIn K (.ref c_NoRow) = true
  sub_NoRow : PySem.W.subIn K (.ref c_NoRow) (.type "BaseException") = some true
  ty_NoRow : PySem.W.typeIn K (.ref c_NoRow) = some (.type "type")
  h_NoRow : HeldC K c_NoRow
  ve_NoRow : PySem.W.kitOne K (.ref c_NoRow) (.type "ValueError") = some true
  kit_NoRow_BeatError : PySem.W.kitOne K (.ref c_NoRow) (.ref c_BeatError) = some true
  exm_NoRow : PySem.W.exmOne K (.ref c_NoRow) (.ref c_BeatError) = some true
  kit_NoRow_NoRow : PySem.W.kitOne K (.ref c_NoRow) (.ref c_NoRow) = some true
  kit_NoRow_NoStroke : PySem.W.kitOne K (.ref c_NoRow) (.ref c_NoStroke) = some false
  kit_NoRow_NoWheel : PySem.W.kitOne K (.ref c_NoRow) (.ref c_NoWheel) = some false
  kit_NoRow_Uneven : PySem.W.kitOne K (.ref c_NoRow) (.ref c_Uneven) = some false
/-! texts of signs -/
theorem text_x : Str.ofString "x" = ⟨#[120]⟩ := by decide +kernel
theorem text_dot : Str.ofString "." = ⟨#[46]⟩ := by decide +kernel
theorem text_none : Str.ofString "" = ⟨#[]⟩ := by decide +kernel
theorem text_two : Str.ofString ".x" = ⟨#[46, 120]⟩ := by decide +kernel
theorem is_sign {c d : Nat} : (V.str ⟨#[c]⟩ = V.str ⟨#[d]⟩) ↔ c = d := by
  constructor
  · intro h
    have := congrArg (fun z : Str => z.cps.toList) (V.str.inj h)
    simpa using this
  · intro h
    rw [h]
theorem str_eq {a b : Str} (h : a.cps.toList = b.cps.toList) : a = b := by
  obtain ⟨⟨x⟩⟩ := a
  obtain ⟨⟨y⟩⟩ := b
  simp at h
  rw [h]
def one (c : Nat) : Str := ⟨#[c]⟩
theorem join_ones : ∀ cs : List Nat, TL.joinL [] ((cs.map one).map TL.tl) = cs
  | [] => rfl
  | [c] => rfl
  | c :: d :: r => by
    have ih := join_ones (d :: r)
    show [c] ++ ([] ++ TL.joinL [] (((d :: r).map one).map TL.tl)) = c :: d :: r
    rw [ih]
    rfl
theorem join_text (cs : List Nat) : (Txt.join ⟨#[]⟩ (cs.map one)).cps.toList = cs := by
  rw [TL.join_eq]
  have h := TL.tl_join ⟨#[]⟩ (cs.map one)
  exact h.trans (join_ones cs)
theorem ones_len : ∀ cs : List Nat, ((cs.map one).map (·.length)).sum = cs.length
  | [] => rfl
  | c :: r => by
    have ih := ones_len r
    show 1 + ((r.map one).map (·.length)).sum = r.length + 1
    rw [ih, Nat.add_comm]
theorem cat_len (a b : Str) : (a ++ b).length = a.length + b.length := by
  show (a.cps ++ b.cps).size = a.cps.size + b.cps.size
  rw [Array.size_append]
theorem cutS_len (z : Str) (lo hi : Option Int) : (cutS z lo hi).length ≤ z.length := by
  show ((z.cps.toList.drop _).take _).toArray.size ≤ z.cps.size
  rw [List.size_toArray, List.length_take, List.length_drop, Array.length_toList]
  omega
/-- a text's row, and whether it is one -/
def bitOf (c : Nat) : Int := if c = 120 then 1 else 0
def rowOf (z : Str) : List Int := z.cps.toList.map bitOf
def allGood (l : List Nat) : Prop := ∀ c ∈ l, c = 120 ∨ c = 46
def Good (z : Str) : Prop := allGood z.cps.toList ∧ 1 ≤ z.length ∧ z.length ≤ 120
theorem rd_ixAny {z : Str} {i : Int} {H : Hp} {Q : VK} (hz : z.length ≤ 1000) (h0 : 0 ≤ i) (h1 : i < (z.length : Nat)) (q : ∀ c, Q (.str ⟨#[c]⟩) H) : rIxS (.str z) (.int i) H Q := by
  have l : i.toNat < z.cps.toList.length := by
    rw [Array.length_toList]
    have e : z.length = z.cps.size := rfl
    omega
  refine rd_ixZ (c := z.cps.toList[i.toNat]) hz ?_ (q _)
  have e := atI_nat (List.getElem?_eq_getElem l)
  rw [Int.toNat_of_nonneg h0] at e
  exact e
section
variable {P : Program} {w : World} {K : PySem.W.Frag} {mg : Str → Option Value} {base : Heap}
def cell (ns : List Int) (k : Nat) : Int := ns.getD k 0
def sp_cell_at (K : PySem.W.Frag) : Sp := fun vs H Q _ => ∃ (a : Addr) (ns : List Int) (k : Nat), vs = [.ref a, .int k] ∧ SqL K H a (ns.map V.int) ∧ Q (.int (cell ns k)) H
theorem ok_cell_at (T : Txt K mg) : FnOk P w K mg base CX0 1 T.f_cell_at T.fd_cell_at ["_law_script", "_law_k"] (sp_cell_at K) := by
  refine T.F_cell_at.ok sc_cell_at (fun vs H Q E h => ?_) (fun cdv A outer s H vs Q E hr h => ?_)
  · obtain ⟨a, ns, k, rfl, _⟩ := h
    rfl
  · obtain ⟨a, ns, k, rfl, hS, q⟩ := h
    refine ⟨_, (pss_cons (ps_if (pt_cmpR op_lt (pv 1) (pe_callB call_lenL (by rfl) T.m_len PySem.boot_len (pa_cons (pv 0) pa_nil)) (nomark _))
      (pss_one (ps_ret (pe_ix ix_list (pv 0) (pv 1) (fun _ _ => rfl))))
      pss_nil)
    (pss_one (ps_ret pe_int))), ?_⟩
    repeat walk_at "rd"
    rw [List.length_map]
    refine rd_split (fun c => ?_) fun c => ?_
    · have hk : k < ns.length := by omega
      repeat walk_at "rd"
      refine rd_ixL hS (atI_nat (j := k) (by rw [List.getElem?_map, List.getElem?_eq_getElem hk]; rfl)) ?_
      have e : cell ns k = ns[k] := by
        unfold cell
        rw [List.getD_eq_getElem?_getD, List.getElem?_eq_getElem hk]
        rfl
      rw [e] at q
      exact q
    · have hk : ns.length ≤ k := by omega
      have e : cell ns k = 0 := by
        unfold cell
        rw [List.getD_eq_getElem?_getD, List.getElem?_eq_none hk]
        rfl
      rw [e] at q
      repeat walk_at "rd"
      exact q
def sp_shown : Sp := fun vs H Q _ => ∃ (r : Addr) (z : Str), vs = [.ref r] ∧ H r = some (.lst ((rowOf z).map V.int)) ∧ allGood z.cps.toList ∧ z.length ≤ 120 ∧ ∀ H', Same H H' → Q (.str z) H'
theorem ok_shown (T : Txt K mg) : FnOk P w K mg base CX0 1 T.f_shown T.fd_shown ["row"] sp_shown := by
  refine T.F_shown.ok sc_shown (fun vs H Q E h => ?_) (fun cdv A outer s H vs Q E hr h => ?_)
  · obtain ⟨r, z, rfl, _⟩ := h
    rfl
  · obtain ⟨r, z, rfl, er, hg, hl, q⟩ := h
    refine ⟨_, (pss_one (ps_ret (pe_join pe_str (pe_lc (own := [("one", 1)]) (g := gName 1) (tt := tYes) rfl sc_shown.nd (pi_list (pv 0)) (blkOk_by (N := N_shown) (sc := defScope s_shown) (by decide +kernel)) (fun _ _ _ _ _ => pg_name (i := 1) sc_shown.nd rfl (Or.inl rfl)) (fun _ _ _ _ _ => pts_nil) (fun _ _ _ _ _ => (pe_ifExp (pt_cmpR op_eq (pv 1) pe_int (nomark _)) pe_str pe_str)))))), ?_⟩
    repeat walk_at "rd"
    refine ⟨r, rfl, ⟨_, SqL.of er⟩, fun D nD => lc_list (xs := (rowOf z).map V.int) (fun i H' => Same H H' ∧ H' D = some (.lst (((z.cps.toList.take i).map one).map V.str))) ⟨same_new nD, upd_same⟩ (fun i H' _ h' => h'.1.seq (SqL.of er)) ?_ ?_⟩
    · rintro i y H' hi ⟨sm, eD⟩
      unfold rowOf at hi
      rw [List.getElem?_map, List.getElem?_map] at hi
      cases gi : z.cps.toList[i]? with
      | none =>
        rw [gi] at hi
        cases hi
      | some c =>
        rw [gi] at hi
        cases hi
        have hc := hg c (List.mem_of_getElem? gi)
        have li : i < z.cps.toList.length := (List.getElem?_eq_some_iff.mp gi).1
        have ll : z.cps.toList.length ≤ 120 := by rw [Array.length_toList]; exact hl
        have fin : ∀ s : Str, s = one c → ∃ acc, H' D = some (.lst acc) ∧ acc.length < sizeLine ∧ (Same H (upd H' D (.lst (acc ++ [V.str s]))) ∧ upd H' D (.lst (acc ++ [V.str s])) D = some (.lst (((z.cps.toList.take (i + 1)).map one).map V.str))) := fun s es => by
          refine ⟨_, eD, small1000 (by rw [List.length_map, List.length_map, List.length_take]; omega), same_put sm nD, ?_⟩
          rw [upd_same, List.take_add_one, gi, List.map_append, List.map_append, es]
          rfl
        refine ⟨rfl, ?_⟩
        repeat walk_at "rd"
        refine rd_split (fun c1 => ?_) fun c1 => ?_
        · repeat walk_at "rd"
          have c2 := V.int.inj c1
          refine fin _ ?_
          rcases hc with hc | hc
          · rw [text_x, hc]
            rfl
          · rw [hc] at c2
            exact absurd c2 (by decide)
        · repeat walk_at "rd"
          refine fin _ ?_
          rcases hc with hc | hc
          · exact absurd (by rw [hc]; rfl) c1
          · rw [text_dot, hc]
            rfl
    · rintro H' ⟨sm, eD⟩
      have el : (rowOf z).length = z.cps.toList.length := by unfold rowOf; rw [List.length_map]
      rw [List.length_map, el, List.take_of_length_le (Nat.le_refl _)] at eD
      refine ⟨_, D, z.cps.toList.map one, rfl, rfl, .inl (SqL.of eD), ?_, ?_⟩
      · rw [ones_len, text_none, Array.length_toList]
        have : z.cps.size ≤ 120 := hl
        show z.cps.size + _ * 0 ≤ 16777216
        omega
      · rw [text_none, str_eq (join_text z.cps.toList)]
        exact q H' sm
def sp_read (C : Addr) : Sp := fun vs H Q E => ∃ (z : Str), vs = [.str z] ∧ z.length ≤ 1000 ∧ (¬ Good z → ∀ H', Same H H' → E (.ref C) none H') ∧ (Good z → ∀ H' r, Same H H' → H' r = some (.lst ((rowOf z).map V.int)) → Q (.ref r) H')
theorem ok_read (T : Txt K mg) : FnOk P w K mg base (L2.CX P w) 1 T.f_read T.fd_read ["text"] (sp_read T.c_NoRow) := by
  refine T.F_read.okX sc_read (fun vs H Q E h => ?_) (fun cdv A outer s H vs Q E hr h => ?_)
  · obtain ⟨z, rfl, _⟩ := h
    rfl
  · obtain ⟨z, rfl, hz, e, q⟩ := h
    refine ⟨_, (pss_cons (ps_if (PW.pt (pw_or (pt_cmpR op_lt (pe_callB call_lenZ (by rfl) T.m_len PySem.boot_len (pa_cons (pv 0) pa_nil)) pe_int (nomark _)) (pw_or1 (pt_cmpR op_gt (pe_callB call_lenZ (by rfl) T.m_len PySem.boot_len (pa_cons (pv 0) pa_nil)) (pe_glob (v := .int 120) (by rfl) T.gv_MOST ⟨_, rfl⟩) (nomark _)))))
      (pss_one (ps_raise rfl (takes_of rfl rfl rfl rfl) (pmk_own PySem.F.excBase_ValueError T.x_NoRow T.gc_NoRow T.kc_NoRow (raises_own T.sub_NoRow T.ty_NoRow) rfl)))
      pss_nil)
    (pss_cons (ps_set (i := 1) sc_read.nd rfl (Or.inl rfl) (pe_lst pa_nil))
    (pss_cons (ps_for (passes_of rfl) rfl (pi_str (pv 0)) (pg_name (i := 2) sc_read.nd rfl (Or.inl rfl))
      (pss_cons (ps_if (PW.pt (pw_and (pt_cmpR op_ne (pv 2) pe_str (nomark _)) (pw_and1 (pt_cmpR op_ne (pv 2) pe_str (nomark _)))))
        (pss_one (ps_raise rfl (takes_of rfl rfl rfl rfl) (pmk_own PySem.F.excBase_ValueError T.x_NoRow T.gc_NoRow T.kc_NoRow (raises_own T.sub_NoRow T.ty_NoRow) rfl)))
        pss_nil)
      (pss_one (ps_expr (pe_bm PySem.F.plainAttrs_list PySem.F.slot_list_append PySem.F.type_list_append mt_append (pv 1) (pa_cons (pe_callTy call_intB (by rfl) T.m_int (by decide +kernel) (pa_cons (pe_cmpR op_eq (pv 2) pe_str (nomark _)) pa_nil)) pa_nil))))))
    (pss_one (ps_ret (pv 1)))))), ?_⟩
    repeat walk_at "rd"
    refine rd_lenZ (Nat.le_of_lt (small1000 hz)) ?_
    repeat walk_at "rd"
    refine rd_split (fun c => ?_) fun c => ?_
    · exact e (fun g => by have := g.2.1; omega) H (Same.refl H)
    repeat walk_at "rd"
    refine rd_lenZ (Nat.le_of_lt (small1000 hz)) ?_
    repeat walk_at "rd"
    refine rd_split (fun c1 => ?_) fun c1 => ?_
    · exact e (fun g => by have := g.2.2; omega) H (Same.refl H)
    repeat walk_at "rd"
    refine ⟨Nat.zero_le _, fun r nr => ?_⟩
    repeat walk_at "rd"
    refine for_sign (fun i σ H' => (∃ x2, σ = [some (.str z), some (.ref r), x2]) ∧ Same H H' ∧ H' r = some (.lst (((z.cps.toList.take i).map bitOf).map V.int)) ∧ allGood (z.cps.toList.take i))
      ⟨⟨_, rfl⟩, same_new nr, upd_same, fun _ m => nomatch m⟩ ?_ ?_
    · rintro i c' σ H' hi ⟨⟨x2, rfl⟩, sm, er, ag⟩
      have hi2 : z.cps.toList[i]? = some c' := by rw [Array.getElem?_toList]; exact hi
      have li : i < z.cps.size := (Array.getElem?_eq_some_iff.mp hi).1
      have zl : z.cps.size ≤ 120 := by
        have : (z.length : Int) ≤ 120 := by omega
        have e1 : z.length = z.cps.size := rfl
        omega
      have go : c' = 120 ∨ c' = 46 → ∀ b : Int, b = bitOf c' → ∃ xs, H' r = some (.lst xs) ∧ xs.length < 1000 ∧ (Same H (upd H' r (.lst (xs ++ [V.int b]))) ∧ upd H' r (.lst (xs ++ [V.int b])) r = some (.lst (((z.cps.toList.take (i + 1)).map bitOf).map V.int)) ∧ allGood (z.cps.toList.take (i + 1))) := fun hc b eb => by
        refine ⟨_, er, by rw [List.length_map, List.length_map, List.length_take]; omega, same_put sm nr, ?_, fun d hd => ?_⟩
        · rw [upd_same, List.take_add_one, hi2, List.map_append, List.map_append, eb]
          rfl
        · rw [List.take_add_one, hi2] at hd
          rcases List.mem_append.mp hd with m | m
          · exact ag d m
          · rw [List.mem_singleton.mp m]
            exact hc
      have bad : ¬ (c' = 120 ∨ c' = 46) → ¬ Good z := fun h g => h (g.1 c' (List.mem_of_getElem? hi2))
      repeat walk_at "rd"
      rw [text_x, text_dot]
      refine rd_splitN (fun c2 => ?_) fun c2 => ?_
      · repeat walk_at "rd"
        refine rd_splitN (fun c3 => ?_) fun c3 => ?_
        · exact e (bad fun h => h.elim (fun z => c2 (is_sign.mpr z)) fun z => c3 (is_sign.mpr z)) H' sm
        · have h46 := is_sign.mp c3
          repeat walk_at "rd"
          refine rd_tyL er ?_
          repeat walk_at "rd"
          obtain ⟨xs, e1, e2, e3⟩ := go (.inr h46) 0 (by rw [h46]; rfl)
          rw [decide_eq_false (fun z => c2 z)]
          refine rd_app e1 e2 ?_
          repeat walk_at "rd"
          exact ⟨⟨_, rfl⟩, e3⟩
      · have h120 := is_sign.mp c2
        repeat walk_at "rd"
        refine rd_tyL er ?_
        repeat walk_at "rd"
        obtain ⟨xs, e1, e2, e3⟩ := go (.inl h120) 1 (by rw [h120]; rfl)
        rw [decide_eq_true c2]
        refine rd_app e1 e2 ?_
        repeat walk_at "rd"
        exact ⟨⟨_, rfl⟩, e3⟩
    · rintro σ H' ⟨⟨x2, rfl⟩, sm, er, ag⟩
      rw [List.take_of_length_le (by rw [Array.length_toList]; exact Nat.le_refl _)] at er ag
      repeat walk_at "rd"
      exact q ⟨ag, by omega, by omega⟩ H' r sm er
def sp_sign_by : Sp := fun vs H Q _ => ∃ (c : Int), vs = [.int c] ∧ ∀ s : Str, s.length = 1 → Q (.str s) H
theorem ok_sign_by (T : Txt K mg) : FnOk P w K mg base CX0 1 T.f_sign_by T.fd_sign_by ["_law_cell"] sp_sign_by := by
  refine T.F_sign_by.ok sc_sign_by (fun vs H Q E h => ?_) (fun cdv A outer s H vs Q E hr h => ?_)
  · obtain ⟨c, rfl, _⟩ := h
    rfl
  · obtain ⟨c, rfl, q⟩ := h
    refine ⟨_, (pss_cons (ps_set (i := 1) sc_sign_by.nd rfl (Or.inl rfl) pe_str)
    (pss_cons (ps_set (i := 1) sc_sign_by.nd rfl (Or.inl rfl) (pe_op op_addZ (pv 1) pe_str))
    (pss_one (ps_ret (pe_ix ix_str (pv 1) (pe_op op_mod (pv 0) pe_int) (fun _ _ => rfl)))))), ?_⟩
    repeat walk_at "rd"
    refine rd_addZ (by decide +kernel) ?_
    repeat walk_at "rd"
    have h0 := Int.emod_nonneg c (show (96 : Int) ≠ 0 by decide)
    have h1 := Int.emod_lt_of_pos c (show (0 : Int) < 96 by decide)
    refine rd_ixAny ?_ h0 ?_ fun k => q _ rfl
    · rw [cat_len]
      decide +kernel
    · refine Int.lt_of_lt_of_le h1 ?_
      rw [cat_len]
      decide +kernel
def sp_signs (K : PySem.W.Frag) : Sp := fun vs H Q _ => ∃ (a : Addr) (ns : List Int), vs = [.ref a] ∧ SqL K H a (ns.map V.int) ∧ ns.length ≤ 63 ∧ ∀ z : Str, z.length ≤ 300 → Q (.str z) H
theorem ok_signs (T : Txt K mg) : FnOk P w K mg base CX0 2 T.f_signs T.fd_signs ["_law_script"] (sp_signs K) := by
  refine T.F_signs.ok sc_signs (fun vs H Q E h => ?_) (fun cdv A outer s H vs Q E hr h => ?_)
  · obtain ⟨a, ns, rfl, _⟩ := h
    rfl
  · obtain ⟨a, ns, rfl, hS, hlen, q⟩ := h
    refine ⟨_, (pss_cons (ps_set (i := 1) sc_signs.nd rfl (Or.inl rfl) (pe_op op_mod (pe_call (ok_cell_at T) hr (by rfl) T.g_cell_at T.k_cell_at T.b_cell_at .nil pass0 (pa_cons (pv 0) (pa_cons pe_int pa_nil))) pe_int))
    (pss_cons (ps_set (i := 2) sc_signs.nd rfl (Or.inl rfl) pe_str)
    (pss_cons (ps_for PassesOwn.never rfl (pi_range1 (by rfl) T.m_range (pa_cons (pe_op op_mod (pe_call (ok_cell_at T) hr (by rfl) T.g_cell_at T.k_cell_at T.b_cell_at .nil pass0 (pa_cons (pv 0) (pa_cons pe_int pa_nil))) pe_int) pa_nil)) (pg_name (i := 3) sc_signs.nd rfl (Or.inl rfl))
      (pss_cons (ps_set (i := 1) sc_signs.nd rfl (Or.inl rfl) (pe_op op_mod (pe_op op_add (pe_op op_add (pe_op op_add (pe_op op_mul (pv 1) (pv 1)) (pe_op op_mul pe_int (pv 1))) pe_int) (pv 3)) pe_int))
      (pss_cons (ps_set (i := 4) sc_signs.nd rfl (Or.inl rfl) (pe_op op_mod (pe_op op_fdiv (pv 1) pe_int) pe_int))
      (pss_cons (ps_if (pt_cmpR op_lt (pe_op op_add (pv 3) pe_int) (pe_callB call_lenL (by rfl) T.m_len PySem.boot_len (pa_cons (pv 0) pa_nil)) (nomark _))
        (pss_one (ps_set (i := 4) sc_signs.nd rfl (Or.inl rfl) (pe_op op_mod (pe_ix ix_list (pv 0) (pe_op op_add (pv 3) pe_int) (fun _ _ => rfl)) pe_int)))
        pss_nil)
      (pss_one (ps_set (i := 2) sc_signs.nd rfl (Or.inl rfl) (pe_op op_addZ (pv 2) (pe_ix ix_str pe_str (pv 4) (fun _ _ => rfl)))))))))
    (pss_cons (ps_set (i := 5) sc_signs.nd rfl (Or.inl rfl) (pe_op op_mod (pe_call (ok_cell_at T) hr (by rfl) T.g_cell_at T.k_cell_at T.b_cell_at .nil pass0 (pa_cons (pv 0) (pa_cons pe_int pa_nil))) pe_int))
    (pss_cons (ps_if (pt_cmpR op_lt (pv 5) pe_int (nomark _))
      (pss_cons (ps_set (i := 6) sc_signs.nd rfl (Or.inl rfl) (pe_op op_mod (pe_op op_fdiv (pe_call (ok_cell_at T) hr (by rfl) T.g_cell_at T.k_cell_at T.b_cell_at .nil pass0 (pa_cons (pv 0) (pa_cons pe_int pa_nil))) pe_int) (pe_op op_add (pe_callB call_lenZ (by rfl) T.m_len PySem.boot_len (pa_cons (pv 2) pa_nil)) pe_int)))
      (pss_one (ps_set (i := 2) sc_signs.nd rfl (Or.inl rfl) (pe_op op_addZ (pe_op op_addZ (pe_slice sl_str (pv 2) po_none (po_some (pv 6))) (pe_call (ok_sign_by T) hr (by rfl) T.g_sign_by T.k_sign_by T.b_sign_by .nil pass0 (pa_cons (pe_op op_fdiv (pe_call (ok_cell_at T) hr (by rfl) T.g_cell_at T.k_cell_at T.b_cell_at .nil pass0 (pa_cons (pv 0) (pa_cons pe_int pa_nil))) pe_int) pa_nil))) (pe_slice sl_str (pv 2) (po_some (pe_op op_add (pv 6) (pv 5))) po_none)))))
      pss_nil)
    (pss_one (ps_ret (pv 2)))))))), ?_⟩
    repeat walk_at "rd"
    refine ⟨a, ns, 0, rfl, hS, ?_⟩
    repeat walk_at "rd"
    have g0 := Int.emod_nonneg (cell ns 0) (show (2147483587 : Int) ≠ 0 by decide)
    have g1 := Int.emod_lt_of_pos (cell ns 0) (show (0 : Int) < 2147483587 by decide)
    generalize cell ns 0 % 2147483587 = sd at g0 g1 ⊢
    refine ⟨a, ns, 0, rfl, hS, ?_⟩
    have n0 := Int.emod_nonneg (cell ns 0) (show (126 : Int) ≠ 0 by decide)
    have n1 := Int.emod_lt_of_pos (cell ns 0) (show (0 : Int) < 126 by decide)
    repeat walk_at "rd"
    generalize cell ns 0 % 126 = nn at n0 n1 ⊢
    refine ⟨nn, rfl, by omega, by omega, for_range (lo := 0) (n := nn.toNat) (fun i σ H' => ∃ (sd : Int) (z : Str) (x3 x4 : Option V), σ = [some (.ref a), some (.int sd), some (.str z), x3, x4, none, none] ∧ 0 ≤ sd ∧ sd < 2147483587 ∧ z.length = i ∧ H = H')
      ⟨sd, _, _, _, rfl, g0, g1, by decide +kernel, rfl⟩ ?_ ?_⟩
    · rintro i σ H' hi ⟨sd, z, x3, x4, rfl, b0, b1, lz, rfl⟩
      repeat walk_at "rd"
      have b2 := Int.emod_nonneg (sd * sd + 69621 * sd + 5 + (0 + (i : Int))) (show (2147483587 : Int) ≠ 0 by decide)
      have b3 := Int.emod_lt_of_pos (sd * sd + 69621 * sd + 5 + (0 + (i : Int))) (show (0 : Int) < 2147483587 by decide)
      generalize (sd * sd + 69621 * sd + 5 + (0 + (i : Int))) % 2147483587 = s2 at b2 b3 ⊢
      rw [List.length_map]
      have put : ∀ bit : Int, (bit = 0 ∨ bit = 1) → ∀ (Q : VK), (∀ k, Q (.str ⟨#[k]⟩) H) → rIxS (.str (Str.ofString ".x")) (.int bit) H Q := fun bit hb Q q => by
        refine rd_ixAny (by decide +kernel) (by omega) ?_ q
        rw [text_two]
        show bit < 2
        omega
      have more : ∀ (k : Nat), (z ++ (⟨#[k]⟩ : Str)).length = i + 1 := fun k => by
        rw [cat_len, lz]
        rfl
      refine rd_split (fun c => ?_) fun c => ?_
      · repeat walk_at "rd"
        have hk : i + 2 < ns.length := by omega
        refine rd_ixL hS (at_of (j := i + 2) (v := .int ns[i + 2]) (by omega) (by rw [List.getElem?_map, List.getElem?_eq_getElem hk]; rfl)) ?_
        repeat walk_at "rd"
        refine put _ (by omega) _ fun k => ?_
        refine rd_addZ (by rw [lz]; show i + 1 ≤ 1000; omega) ?_
        repeat walk_at "rd"
        exact ⟨s2, _, _, _, rfl, b2, b3, more k, rfl⟩
      · repeat walk_at "rd"
        refine put _ (by omega) _ fun k => ?_
        refine rd_addZ (by rw [lz]; show i + 1 ≤ 1000; omega) ?_
        repeat walk_at "rd"
        exact ⟨s2, _, _, _, rfl, b2, b3, more k, rfl⟩
    · rintro σ H' ⟨sd, z, x3, x4, rfl, b0, b1, lz, rfl⟩
      repeat walk_at "rd"
      refine ⟨a, ns, 1, rfl, hS, ?_⟩
      repeat walk_at "rd"
      refine rd_split (fun c => ?_) fun c => ?_
      · repeat walk_at "rd"
        refine ⟨a, ns, 1, rfl, hS, ?_⟩
        repeat walk_at "rd"
        refine rd_lenZ (Nat.le_of_lt (small1000 (by omega))) ?_
        repeat walk_at "rd"
        refine rd_slS (by omega) ?_
        repeat walk_at "rd"
        refine ⟨a, ns, 1, rfl, hS, ?_⟩
        repeat walk_at "rd"
        refine ⟨_, rfl, fun s hs => ?_⟩
        have l1 := cutS_len z none (some (cell ns 1 / 6 % (((z.length : Nat) : Int) + 1)))
        refine rd_addZ (by omega) ?_
        repeat walk_at "rd"
        refine rd_slS (by omega) ?_
        generalize hz2 : cutS z (some _) none = z2
        have l2 : z2.length ≤ z.length := by
          rw [← hz2]
          exact cutS_len _ _ _
        refine rd_addZ (by rw [cat_len]; omega) ?_
        repeat walk_at "rd"
        refine q _ ?_
        rw [cat_len, cat_len]
        omega
      · repeat walk_at "rd"
        exact q _ (by omega)
instance (z : Str) : Decidable (Good z) := by
  unfold Good allGood
  infer_instance
def sp_good : Sp := fun vs H Q _ => ∃ (z : Str), vs = [.str z] ∧ z.length ≤ 300 ∧ Q (.bl (decide (Good z))) H
theorem ok_good (T : Txt K mg) : FnOk P w K mg base CX0 1 T.f_good T.fd_good ["_law_signs_here"] sp_good := by
  refine T.F_good.ok sc_good (fun vs H Q E h => ?_) (fun cdv A outer s H vs Q E hr h => ?_)
  · obtain ⟨z, rfl, _⟩ := h
    rfl
  · obtain ⟨z, rfl, hz, q⟩ := h
    refine ⟨_, (pss_cons (ps_for PassesOwn.never rfl (pi_str (pv 0)) (pg_name (i := 1) sc_good.nd rfl (Or.inl rfl))
      (pss_one (ps_if (PW.pt (pw_and (pt_cmpR op_ne (pv 1) pe_str (nomark _)) (pw_and1 (pt_cmpR op_ne (pv 1) pe_str (nomark _)))))
        (pss_one (ps_ret pe_bl))
        pss_nil)))
    (pss_one (ps_ret (pe_chain op_le op_le pe_int (pe_callB call_lenZ (by rfl) T.m_len PySem.boot_len (pa_cons (pv 0) pa_nil)) pe_int)))), ?_⟩
    repeat walk_at "rd"
    refine for_sign (fun i σ H' => (∃ x1, σ = [some (.str z), x1]) ∧ allGood (z.cps.toList.take i) ∧ H = H') ⟨⟨_, rfl⟩, (fun _ m => nomatch m), rfl⟩ ?_ ?_
    · rintro i c' σ H' hi ⟨⟨x1, rfl⟩, ag, rfl⟩
      have hi2 : z.cps.toList[i]? = some c' := by rw [Array.getElem?_toList]; exact hi
      have go : c' = 120 ∨ c' = 46 → allGood (z.cps.toList.take (i + 1)) := fun hc d hd => by
        rw [List.take_add_one, hi2] at hd
        rcases List.mem_append.mp hd with m | m
        · exact ag d m
        · rw [List.mem_singleton.mp m]
          exact hc
      repeat walk_at "rd"
      rw [text_x, text_dot]
      refine rd_splitN (fun c2 => ?_) fun c2 => ?_
      · repeat walk_at "rd"
        refine rd_splitN (fun c3 => ?_) fun c3 => ?_
        · repeat walk_at "rd"
          rw [decide_eq_false (fun g : Good z => (g.1 c' (List.mem_of_getElem? hi2)).elim (fun z => c2 (is_sign.mpr z)) fun z => c3 (is_sign.mpr z))] at q
          exact q
        · repeat walk_at "rd"
          exact ⟨⟨_, rfl⟩, go (.inr (is_sign.mp c3)), rfl⟩
      · repeat walk_at "rd"
        exact ⟨⟨_, rfl⟩, go (.inl (is_sign.mp c2)), rfl⟩
    · rintro σ H' ⟨⟨x1, rfl⟩, ag, rfl⟩
      rw [List.take_of_length_le (by rw [Array.length_toList]; exact Nat.le_refl _)] at ag
      repeat walk_at "rd"
      refine rd_lenZ (Nat.le_of_lt (small1000 (by omega))) ?_
      repeat walk_at "rd"
      by_cases c : (1 : Int) ≤ (z.length : Nat)
      · refine rd_yes c ?_
        repeat walk_at "rd"
        have e : decide (((z.length : Nat) : Int) ≤ 120) = decide (Good z) := by
          by_cases c2 : ((z.length : Nat) : Int) ≤ 120
          · rw [decide_eq_true c2, decide_eq_true ⟨ag, by omega, by omega⟩]
          · rw [decide_eq_false c2, decide_eq_false (fun g : Good z => by have := g.2.2; omega)]
        rw [e]
        exact q
      · refine rd_nay c ?_
        rw [decide_eq_false (fun g : Good z => by have := g.2.1; omega)] at q
        exact q
def sp_refused : Sp := fun vs H Q _ => ∃ (z : Str), vs = [.str z] ∧ z.length ≤ 300 ∧ ¬ Good z ∧ ∀ H', Same H H' → Q (.bl true) H'
theorem ok_refused (T : Txt K mg) : FnOk P w K mg base CX0 2 T.f_refused T.fd_refused ["_law_signs_here"] sp_refused := by
  refine T.F_refused.ok sc_refused (fun vs H Q E h => ?_) (fun cdv A outer s H vs Q E hr h => ?_)
  · obtain ⟨z, rfl, _⟩ := h
    rfl
  · obtain ⟨z, rfl, hz, hb, q⟩ := h
    refine ⟨_, (pss_cons (ps_set (i := 1) sc_refused.nd rfl (Or.inl rfl) pe_non)
    (pss_cons (ps_try_held (i := 2) (j := 1) rfl rfl rfl sc_refused.nd rfl rfl rfl (Or.inl rfl) (Or.inr rfl) ⟨rfl, by decide, Or.inl T.gc_BeatError⟩ (by decide) (by decide) (fun W pn xe tk _ => (pss_one (ps_expr (pe_callS (ok_read T) hr (by rfl) T.g_read T.k_read T.b_read (fun σ => passAt tk σ) (pa_cons (pv 0) pa_nil))))))
    (pss_cons (ps_if (PW.pt (pw_or (pt_not (pt_val (pe_callB call_isH (by rfl) T.m_isinstance (by decide +kernel) (pa_cons (pv 1) (pa_cons (pe_glob (v := .ref T.c_NoRow) (by rfl) T.gc_NoRow rfl) pa_nil))))) (pw_or1 (pt_not (pt_val (pe_callB call_isH (by rfl) T.m_isinstance (by decide +kernel) (pa_cons (pv 1) (pa_cons (pe_bltn (v := .ty "ValueError") (by rfl) T.m_ValueError (by decide +kernel) rfl) pa_nil))))))))
      (pss_one (ps_ret pe_bl))
      pss_nil)
    (pss_one (ps_ret (pe_not (pe_callB call_isHT (by rfl) T.m_isinstance (by decide +kernel) (pa_cons (pv 1) (pa_cons (pe_tup (pa_cons (pe_glob (v := .ref T.c_NoStroke) (by rfl) T.gc_NoStroke rfl) (pa_cons (pe_glob (v := .ref T.c_NoWheel) (by rfl) T.gc_NoWheel rfl) (pa_cons (pe_glob (v := .ref T.c_Uneven) (by rfl) T.gc_Uneven rfl) pa_nil)))) pa_nil))))))))), ?_⟩
    repeat walk_at "rd"
    refine ⟨z, rfl, by omega, fun _ H1 sm1 => ⟨T.exm_NoRow, fun x nx => ?_⟩, fun hg => absurd hg hb⟩
    have st := stood_new (H := H1) (a := x) (D := T.c_NoRow) nx
    repeat walk_at "rd"
    refine rd_isH st T.h_NoRow (.own _) T.kit_NoRow_NoRow ?_
    repeat walk_at "rd"
    refine rd_isH st T.h_NoRow (.ty _) T.ve_NoRow ?_
    repeat walk_at "rd"
    refine ⟨by show 3 ≤ sizeLine; decide, fun t nt => ?_⟩
    repeat walk_at "rd"
    refine rd_isHT (st.to nt) T.h_NoRow upd_same (.cons (.own _) (.cons (.own _) (.cons (.own _) .nil))) (kitAny_cons T.kit_NoRow_NoStroke (fun _ => kitAny_cons T.kit_NoRow_NoWheel (fun _ => kitAny_cons T.kit_NoRow_Uneven (fun _ => kitAny_nil) (fun z => nomatch z)) (fun z => nomatch z)) (fun z => nomatch z)) ?_
    repeat walk_at "rd"
    exact q _ (sm1.trans (same_to (same_new nx) nt))
def sp_is_row : Sp := fun vs H Q _ => ∃ (r : Addr) (z : Str), vs = [.ref r, .str z] ∧ H r = some (.lst ((rowOf z).map V.int)) ∧ z.length ≤ 300 ∧ ∀ H', Same H H' → Q (.bl true) H'
theorem ok_is_row (T : Txt K mg) : FnOk P w K mg base CX0 1 T.f_is_row T.fd_is_row ["_law_found", "_law_signs_here"] sp_is_row := by
  refine T.F_is_row.ok sc_is_row (fun vs H Q E h => ?_) (fun cdv A outer s H vs Q E hr h => ?_)
  · obtain ⟨r, z, rfl, _⟩ := h
    rfl
  · obtain ⟨r, z, rfl, er, hz, q⟩ := h
    refine ⟨_, (pss_cons (ps_if (PW.pt (pw_or (pt_not (pt_val (pe_callB call_isi (by rfl) T.m_isinstance (by decide +kernel) (pa_cons (pv 0) (pa_cons (pe_bltn (v := .ty "list") (by rfl) T.m_list (by decide +kernel) rfl) pa_nil))))) (pw_or1 (pt_cmpR op_ne (pe_callB call_lenL (by rfl) T.m_len PySem.boot_len (pa_cons (pv 0) pa_nil)) (pe_callB call_lenZ (by rfl) T.m_len PySem.boot_len (pa_cons (pv 1) pa_nil)) (nomark _)))))
      (pss_one (ps_ret pe_bl))
      pss_nil)
    (pss_cons (ps_for PassesOwn.never rfl (pi_zipLS (by rfl) T.m_zip (pa_cons (pv 0) (pa_cons (pv 1) pa_nil))) (pg_tup rfl (pgs_cons (pg_name (i := 2) sc_is_row.nd rfl (Or.inl rfl)) (pgs_cons (pg_name (i := 3) sc_is_row.nd rfl (Or.inl rfl)) pgs_nil)))
      (pss_one (ps_if (PW.pt (pw_or (pt_not (pt_val (pe_callB call_isi (by rfl) T.m_isinstance (by decide +kernel) (pa_cons (pv 2) (pa_cons (pe_bltn (v := .ty "int") (by rfl) T.m_int (by decide +kernel) rfl) pa_nil))))) (pw_or (pt_val (pe_callB call_isi (by rfl) T.m_isinstance (by decide +kernel) (pa_cons (pv 2) (pa_cons (pe_bltn (v := .ty "bool") (by rfl) T.m_bool (by decide +kernel) rfl) pa_nil)))) (pw_or1 (pt_cmpR op_ne (pv 2) (pe_callTy call_intB (by rfl) T.m_int (by decide +kernel) (pa_cons (pe_cmpR op_eq (pv 3) pe_str (nomark _)) pa_nil)) (nomark _))))))
        (pss_one (ps_ret pe_bl))
        pss_nil)))
    (pss_one (ps_ret pe_bl)))), ?_⟩
    have hSr : SqL K H r ((rowOf z).map V.int) := SqL.of er
    have ln : ((rowOf z).map V.int).length = z.cps.size := by
      unfold rowOf
      rw [List.length_map, List.length_map, Array.length_toList]
    repeat walk_at "rd"
    refine rd_lenZ (Nat.le_of_lt (small1000 (by omega))) ?_
    repeat walk_at "rd"
    refine rd_splitN (fun c => absurd (congrArg (fun n : Nat => V.int n) ln) c) fun _ => ?_
    repeat walk_at "rd"
    refine rd_izls ?_
    repeat walk_at "rd"
    refine ⟨r, z, _, rfl, hSr, for_zls ln (fun i σ H' => (∃ x2 x3, σ = [some (.ref r), some (.str z), x2, x3]) ∧ Same H H') ⟨⟨_, _, rfl⟩, Same.refl H⟩ (fun i σ H' h' => h'.2.seq hSr) ?_ ?_⟩
    · rintro i y c t σ H' hy hc nt ⟨⟨x2, x3, rfl⟩, sm⟩
      have ey : y = V.int (bitOf c) := by
        unfold rowOf at hy
        rw [List.getElem?_map, List.getElem?_map, Array.getElem?_toList, hc] at hy
        exact (Option.some.inj hy).symm
      subst ey
      have et : upd H' t (.tup [V.int (bitOf c), V.str ⟨#[c]⟩]) t = some (.tup [V.int (bitOf c), V.str ⟨#[c]⟩]) := upd_same
      have sm2 := same_to (o := .tup [V.int (bitOf c), V.str ⟨#[c]⟩]) sm nt
      generalize upd H' t (.tup [V.int (bitOf c), V.str ⟨#[c]⟩]) = H2 at et sm2 ⊢
      repeat walk_at "rd"
      have ev : (if decide (V.str (⟨#[c]⟩ : Str) = V.str (Str.ofString "x")) = true then (1 : Int) else 0) = bitOf c := by
        rw [text_x]
        unfold bitOf
        by_cases h : c = 120
        · rw [decide_eq_true (is_sign.mpr h), if_pos rfl, if_pos h]
        · rw [decide_eq_false (fun z => h (is_sign.mp z)), if_neg Bool.false_ne_true, if_neg h]
      rw [ev]
      refine rd_splitN (fun c => absurd rfl c) fun _ => ?_
      repeat walk_at "rd"
      exact ⟨⟨_, _, rfl⟩, sm2⟩
    · rintro σ H' ⟨⟨x2, x3, rfl⟩, sm⟩
      repeat walk_at "rd"
      exact q H' sm
/-! ### the law -/
def sp_law (K : PySem.W.Frag) : Sp := fun vs H Q _ => ∃ (a : Addr) (ns : List Int), vs = [.ref a] ∧ SqL K H a (ns.map V.int) ∧ ns.length ≤ 63 ∧ ∀ H', Q (.bl true) H'
theorem ok_law (T : Txt K mg) {fa : Addr} {fda : FuncData} (FL : Fun K "law" "law" s_law fa fda) : FnOk P w K mg base CX0 3 fa fda ["_law_script"] (sp_law K) := by
  refine FL.ok sc_law (fun vs H Q E h => ?_) (fun cdv A outer s H vs Q E hr h => ?_)
  · obtain ⟨a, ns, rfl, _⟩ := h
    rfl
  · obtain ⟨a, ns, rfl, hS, hlen, q⟩ := h
    refine ⟨_, (pss_cons (ps_set (i := 1) sc_law.nd rfl (Or.inl rfl) (pe_call (ok_signs T) hr (by rfl) T.g_signs T.k_signs T.b_signs .nil pass0 (pa_cons (pv 0) pa_nil)))
    (pss_cons (ps_if (pt_not (pt_val (pe_call (ok_good T) (hr.mono (by decide)) (by rfl) T.g_good T.k_good T.b_good .nil pass0 (pa_cons (pv 1) pa_nil))))
      (pss_one (ps_ret (pe_call (ok_refused T) hr (by rfl) T.g_refused T.k_refused T.b_refused .nil pass0 (pa_cons (pv 1) pa_nil))))
      pss_nil)
    (pss_cons (ps_setLc (i := 2) (own := [("_law_sign", 5)]) (g := gName 5) (tt := tYes) rfl sc_law.nd rfl rfl (sw_true rfl rfl rfl (by decide +kernel)) (pi_str (pv 1)) (blkOk_by (N := N_law) (sc := defScope s_law) (by decide +kernel)) (fun _ _ _ _ _ => pg_name (i := 5) sc_law.nd rfl (Or.inl rfl)) (fun _ _ _ _ _ => pts_nil) (fun _ _ _ _ _ => (pe_callTy call_intB (by rfl) T.m_int (by decide +kernel) (pa_cons (pe_cmpR op_eq (pv 5) pe_str (nomark _)) pa_nil))))
    (pss_cons (ps_set (i := 3) sc_law.nd rfl (Or.inl rfl) (pe_call (ok_shown T) (hr.mono (by decide)) (by rfl) T.g_shown T.k_shown T.b_shown .nil pass0 (pa_cons (pv 2) pa_nil)))
    (pss_cons (ps_if (PW.pt (pw_or (pt_not (pt_val (pe_callB call_isi (by rfl) T.m_isinstance (by decide +kernel) (pa_cons (pv 3) (pa_cons (pe_bltn (v := .ty "str") (by rfl) T.m_str (by decide +kernel) rfl) pa_nil))))) (pw_or (pt_cmpR op_ne (pv 3) (pv 1) (nomark _)) (pw_or1 (pt_not (pt_val (pe_call (ok_is_row T) (hr.mono (by decide)) (by rfl) T.g_is_row T.k_is_row T.b_is_row .nil pass0 (pa_cons (pv 2) (pa_cons (pv 1) pa_nil)))))))))
      (pss_one (ps_ret pe_bl))
      pss_nil)
    (pss_cons (ps_set (i := 4) sc_law.nd rfl (Or.inl rfl) (pe_call (ok_read T) (hr.mono (by decide)) (by rfl) T.g_read T.k_read T.b_read .nil passL (pa_cons (pv 1) pa_nil)))
    (pss_one (ps_ret (pe_call (ok_is_row T) (hr.mono (by decide)) (by rfl) T.g_is_row T.k_is_row T.b_is_row .nil pass0 (pa_cons (pv 4) (pa_cons (pv 1) pa_nil))))))))))), ?_⟩
    repeat walk_at "rd"
    refine ⟨a, ns, rfl, hS, hlen, fun z hz => ?_⟩
    repeat walk_at "rd"
    refine ⟨z, rfl, hz, ?_⟩
    by_cases hg : Good z
    · rw [decide_eq_true hg]
      have zl : z.length ≤ 120 := hg.2.2
      repeat walk_at "rd"
      intro D nD
      refine lc_sign (fun i H' => Same H H' ∧ H' D = some (.lst (((z.cps.toList.take i).map bitOf).map V.int))) ⟨same_new nD, upd_same⟩ ?_ ?_
      · rintro i c H' hi ⟨sm, eD⟩
        have hi2 : z.cps.toList[i]? = some c := by rw [Array.getElem?_toList]; exact hi
        refine ⟨rfl, ?_⟩
        repeat walk_at "rd"
        have ev : (if decide (V.str (⟨#[c]⟩ : Str) = V.str (Str.ofString "x")) = true then (1 : Int) else 0) = bitOf c := by
          rw [text_x]
          unfold bitOf
          by_cases h : c = 120
          · rw [decide_eq_true (is_sign.mpr h), if_pos rfl, if_pos h]
          · rw [decide_eq_false (fun z => h (is_sign.mp z)), if_neg Bool.false_ne_true, if_neg h]
        rw [ev]
        have e1 : z.length = z.cps.size := rfl
        refine ⟨_, eD, small1000 (by rw [List.length_map, List.length_map, List.length_take, Array.length_toList]; omega), same_put sm nD, ?_⟩
        rw [upd_same, List.take_add_one, hi2, List.map_append, List.map_append]
        rfl
      · rintro H1 ⟨sm1, e1⟩
        rw [List.take_of_length_le (by rw [Array.length_toList]; exact Nat.le_refl _)] at e1
        have er : H1 D = some (.lst ((rowOf z).map V.int)) := e1
        repeat walk_at "rd"
        refine ⟨D, z, rfl, er, hg.1, zl, fun H2 sm2 => ?_⟩
        repeat walk_at "rd"
        refine rd_splitN (fun c => absurd rfl c) fun _ => ?_
        repeat walk_at "rd"
        refine ⟨D, z, rfl, sm2 _ _ er, by omega, fun H3 sm3 => ?_⟩
        repeat walk_at "rd"
        refine ⟨z, rfl, by omega, fun hb => absurd hg hb, fun _ H4 r4 sm4 er4 => ?_⟩
        repeat walk_at "rd"
        exact ⟨r4, z, rfl, er4, by omega, fun H5 _ => q H5⟩
    · rw [decide_eq_false hg]
      repeat walk_at "rd"
      exact ⟨z, rfl, hz, hg, fun H1 _ => q H1⟩
end
/-! ### what the top has written -/
theorem all_mk {l : PySem.W.OpenLaw} {w : World} {K : PySem.W.Frag} {h : Heap} {mg : Str → Option Value} {fa : Addr} (X : K.In h) (G : h.Ns mainGlobals mg) (hfa : mg "law" = some (.ref fa))
    {f1 : Addr} {od1 an1 : Option Addr} {sl1 : Array (Option Value)} {oc1 kV1 dc1 pm1 cd1 ct1 : Value}
    {f2 : Addr} {od2 an2 : Option Addr} {sl2 : Array (Option Value)} {oc2 kV2 dc2 pm2 cd2 ct2 : Value}
    {f3 : Addr} {od3 an3 : Option Addr} {sl3 : Array (Option Value)} {oc3 kV3 dc3 pm3 cd3 ct3 : Value}
    {f4 : Addr} {od4 an4 : Option Addr} {sl4 : Array (Option Value)} {oc4 kV4 dc4 pm4 cd4 ct4 : Value}
    {f5 : Addr} {od5 an5 : Option Addr} {sl5 : Array (Option Value)} {oc5 kV5 dc5 pm5 cd5 ct5 : Value}
    {f6 : Addr} {od6 an6 : Option Addr} {sl6 : Array (Option Value)} {oc6 kV6 dc6 pm6 cd6 ct6 : Value}
    {f7 : Addr} {od7 an7 : Option Addr} {sl7 : Array (Option Value)} {oc7 kV7 dc7 pm7 cd7 ct7 : Value}
    {f8 : Addr} {od8 an8 : Option Addr} {sl8 : Array (Option Value)} {oc8 kV8 dc8 pm8 cd8 ct8 : Value}
    {f9 : Addr} {od9 an9 : Option Addr} {sl9 : Array (Option Value)} {oc9 kV9 dc9 pm9 cd9 ct9 : Value}
    {tk_MOST : Tok}
    {C_BeatError : Addr}
    {C_NoRow : Addr}
    {C_NoStroke : Addr}
    {C_NoWheel : Addr}
    {C_Uneven : Addr}
    (a1 : PySem.W.nsIn K mainGlobals "shown" = some (some (.ref f1)))
    (l1 : K.lookup f1 = some ⟨oc1, od1, .func (PySem.W.fnOf "shown" "shown" (defArgs s_shown) (defBody s_shown) (defScope s_shown) .none kV1 dc1 pm1 an1 cd1 ct1), sl1⟩)
    (c1 : PySem.W.codeIn K cd1 "shown" = true)
    (k1 : PySem.W.keepIn K (.ref f1) = true)
    (a2 : PySem.W.nsIn K mainGlobals "read" = some (some (.ref f2)))
    (l2 : K.lookup f2 = some ⟨oc2, od2, .func (PySem.W.fnOf "read" "read" (defArgs s_read) (defBody s_read) (defScope s_read) .none kV2 dc2 pm2 an2 cd2 ct2), sl2⟩)
    (c2 : PySem.W.codeIn K cd2 "read" = true)
    (k2 : PySem.W.keepIn K (.ref f2) = true)
    (a3 : PySem.W.nsIn K mainGlobals "_law_cell_at" = some (some (.ref f3)))
    (l3 : K.lookup f3 = some ⟨oc3, od3, .func (PySem.W.fnOf "_law_cell_at" "_law_cell_at" (defArgs s_cell_at) (defBody s_cell_at) (defScope s_cell_at) .none kV3 dc3 pm3 an3 cd3 ct3), sl3⟩)
    (c3 : PySem.W.codeIn K cd3 "_law_cell_at" = true)
    (k3 : PySem.W.keepIn K (.ref f3) = true)
    (a4 : PySem.W.nsIn K mainGlobals "_law_sign_by" = some (some (.ref f4)))
    (l4 : K.lookup f4 = some ⟨oc4, od4, .func (PySem.W.fnOf "_law_sign_by" "_law_sign_by" (defArgs s_sign_by) (defBody s_sign_by) (defScope s_sign_by) .none kV4 dc4 pm4 an4 cd4 ct4), sl4⟩)
    (c4 : PySem.W.codeIn K cd4 "_law_sign_by" = true)
    (k4 : PySem.W.keepIn K (.ref f4) = true)
    (a5 : PySem.W.nsIn K mainGlobals "_law_signs" = some (some (.ref f5)))
    (l5 : K.lookup f5 = some ⟨oc5, od5, .func (PySem.W.fnOf "_law_signs" "_law_signs" (defArgs s_signs) (defBody s_signs) (defScope s_signs) .none kV5 dc5 pm5 an5 cd5 ct5), sl5⟩)
    (c5 : PySem.W.codeIn K cd5 "_law_signs" = true)
    (k5 : PySem.W.keepIn K (.ref f5) = true)
    (a6 : PySem.W.nsIn K mainGlobals "_law_good" = some (some (.ref f6)))
    (l6 : K.lookup f6 = some ⟨oc6, od6, .func (PySem.W.fnOf "_law_good" "_law_good" (defArgs s_good) (defBody s_good) (defScope s_good) .none kV6 dc6 pm6 an6 cd6 ct6), sl6⟩)
    (c6 : PySem.W.codeIn K cd6 "_law_good" = true)
    (k6 : PySem.W.keepIn K (.ref f6) = true)
    (a7 : PySem.W.nsIn K mainGlobals "_law_refused" = some (some (.ref f7)))
    (l7 : K.lookup f7 = some ⟨oc7, od7, .func (PySem.W.fnOf "_law_refused" "_law_refused" (defArgs s_refused) (defBody s_refused) (defScope s_refused) .none kV7 dc7 pm7 an7 cd7 ct7), sl7⟩)
    (c7 : PySem.W.codeIn K cd7 "_law_refused" = true)
    (k7 : PySem.W.keepIn K (.ref f7) = true)
    (a8 : PySem.W.nsIn K mainGlobals "_law_is_row" = some (some (.ref f8)))
    (l8 : K.lookup f8 = some ⟨oc8, od8, .func (PySem.W.fnOf "_law_is_row" "_law_is_row" (defArgs s_is_row) (defBody s_is_row) (defScope s_is_row) .none kV8 dc8 pm8 an8 cd8 ct8), sl8⟩)
    (c8 : PySem.W.codeIn K cd8 "_law_is_row" = true)
    (k8 : PySem.W.keepIn K (.ref f8) = true)
    (a9 : PySem.W.nsIn K mainGlobals "law" = some (some (.ref f9)))
    (l9 : K.lookup f9 = some ⟨oc9, od9, .func (PySem.W.fnOf "law" "law" (defArgs s_law) (defBody s_law) (defScope s_law) .none kV9 dc9 pm9 an9 cd9 ct9), sl9⟩)
    (c9 : PySem.W.codeIn K cd9 "law" = true)
    (k9 : PySem.W.keepIn K (.ref f9) = true)
    (z_int : PySem.W.nsIn K mainGlobals "int" = some none)
    (z_len : PySem.W.nsIn K mainGlobals "len" = some none)
    (z_range : PySem.W.nsIn K mainGlobals "range" = some none)
    (z_isinstance : PySem.W.nsIn K mainGlobals "isinstance" = some none)
    (z_ValueError : PySem.W.nsIn K mainGlobals "ValueError" = some none)
    (z_zip : PySem.W.nsIn K mainGlobals "zip" = some none)
    (z_bool : PySem.W.nsIn K mainGlobals "bool" = some none)
    (z_list : PySem.W.nsIn K mainGlobals "list" = some none)
    (z_str : PySem.W.nsIn K mainGlobals "str" = some none)
    (v_MOST : PySem.W.nsIn K mainGlobals "MOST" = some (some (.int 120 tk_MOST)))
    (aC_BeatError : PySem.W.nsIn K mainGlobals "BeatError" = some (some (.ref C_BeatError)))
    (iC_BeatError : PySem.W.isClsIn K C_BeatError = true)
    (tC_BeatError : PySem.W.typeIn K (.ref C_BeatError) = some (.type "type"))
    (bC_BeatError : PySem.W.subIn K (.ref C_BeatError) (.type "BaseException") = some true)
    (aC_NoRow : PySem.W.nsIn K mainGlobals "NoRow" = some (some (.ref C_NoRow)))
    (iC_NoRow : PySem.W.isClsIn K C_NoRow = true)
    (tC_NoRow : PySem.W.typeIn K (.ref C_NoRow) = some (.type "type"))
    (bC_NoRow : PySem.W.subIn K (.ref C_NoRow) (.type "BaseException") = some true)
    (aC_NoStroke : PySem.W.nsIn K mainGlobals "NoStroke" = some (some (.ref C_NoStroke)))
    (iC_NoStroke : PySem.W.isClsIn K C_NoStroke = true)
    (tC_NoStroke : PySem.W.typeIn K (.ref C_NoStroke) = some (.type "type"))
    (bC_NoStroke : PySem.W.subIn K (.ref C_NoStroke) (.type "BaseException") = some true)
    (aC_NoWheel : PySem.W.nsIn K mainGlobals "NoWheel" = some (some (.ref C_NoWheel)))
    (iC_NoWheel : PySem.W.isClsIn K C_NoWheel = true)
    (tC_NoWheel : PySem.W.typeIn K (.ref C_NoWheel) = some (.type "type"))
    (bC_NoWheel : PySem.W.subIn K (.ref C_NoWheel) (.type "BaseException") = some true)
    (aC_Uneven : PySem.W.nsIn K mainGlobals "Uneven" = some (some (.ref C_Uneven)))
    (iC_Uneven : PySem.W.isClsIn K C_Uneven = true)
    (tC_Uneven : PySem.W.typeIn K (.ref C_Uneven) = some (.type "type"))
    (bC_Uneven : PySem.W.subIn K (.ref C_Uneven) (.type "BaseException") = some true)
    (x_NoRow : PySem.W.excIn K C_NoRow [.type "ValueError", .type "Exception", .type "BaseException", .type "object"] "ValueError.__new__" = true)
    (kc_NoRow : PySem.W.keepIn K (.ref C_NoRow) = true)
    (sub_NoRow : PySem.W.subIn K (.ref C_NoRow) (.type "BaseException") = some true)
    (ty_NoRow : PySem.W.typeIn K (.ref C_NoRow) = some (.type "type"))
    (hn0 : PySem.W.specialIn K (.builtin "object.__class__") "__get__" = some (some (.builtin "getset_descriptor.__get__")))
    (ht0 : PySem.W.takesIn K (.builtin "object.__class__") = some true)
    (hc_NoRow : PySem.W.isClsIn K C_NoRow = true)
    (hg_NoRow : PySem.W.findIn K (.ref C_NoRow) "__getattribute__" = some (some (.builtin "BaseException.__getattribute__")))
    (hk_NoRow : PySem.W.findIn K (.ref C_NoRow) "__getattr__" = some none)
    (hs_NoRow : PySem.W.subIn K (.ref C_NoRow) (.type "BaseException") = some true)
    (ha_NoRow : PySem.W.findIn K (.ref C_NoRow) "__class__" = some (some (.builtin "object.__class__")))
    (hm_NoRow : PySem.W.mroIn K C_NoRow (.type "object") = some true)
    (hd_NoRow : PySem.W.hasDictIn K C_NoRow = true)
    (sVE_NoRow : PySem.W.subIn K (.ref C_NoRow) (.type "ValueError") = some true)
    (s_NoRow_BeatError : PySem.W.subIn K (.ref C_NoRow) (.ref C_BeatError) = some true)
    (n_NoRow_BeatError : (C_NoRow == C_BeatError) = false)
    (s_NoRow_NoStroke : PySem.W.subIn K (.ref C_NoRow) (.ref C_NoStroke) = some false)
    (n_NoRow_NoStroke : (C_NoRow == C_NoStroke) = false)
    (s_NoRow_NoWheel : PySem.W.subIn K (.ref C_NoRow) (.ref C_NoWheel) = some false)
    (n_NoRow_NoWheel : (C_NoRow == C_NoWheel) = false)
    (s_NoRow_Uneven : PySem.W.subIn K (.ref C_NoRow) (.ref C_Uneven) = some false)
    (n_NoRow_Uneven : (C_NoRow == C_Uneven) = false)
    : ∃ fd : FuncData, (∀ (s : Shared) (v : Value), BindsTo s fd ⟨[v], []⟩ [("_law_script", v)]) ∧ ∀ base : Heap, K.In base → base.Ns mainGlobals mg → FnOk l.prog w K mg base CX0 3 fa fd ["_law_script"] (sp_law K) := by
  have e := hfa.symm.trans (PySem.W.mg_of X G a9)
  cases e
  have F1 := fun_mk (st := s_shown) l1 c1 k1
  have F2 := fun_mk (st := s_read) l2 c2 k2
  have F3 := fun_mk (st := s_cell_at) l3 c3 k3
  have F4 := fun_mk (st := s_sign_by) l4 c4 k4
  have F5 := fun_mk (st := s_signs) l5 c5 k5
  have F6 := fun_mk (st := s_good) l6 c6 k6
  have F7 := fun_mk (st := s_refused) l7 c7 k7
  have F8 := fun_mk (st := s_is_row) l8 c8 k8
  have F9 := fun_mk (st := s_law) l9 c9 k9
  have T : Txt K mg := {
    f_shown := f1, fd_shown := _, F_shown := F1, k_shown := k1, g_shown := PySem.W.mg_of X G a1, b_shown := F1.binds (ps := ["row"]) (fun _ _ _ _ _ _ us hl => match us, hl with | [_], _ => rfl),
    f_read := f2, fd_read := _, F_read := F2, k_read := k2, g_read := PySem.W.mg_of X G a2, b_read := F2.binds (ps := ["text"]) (fun _ _ _ _ _ _ us hl => match us, hl with | [_], _ => rfl),
    f_cell_at := f3, fd_cell_at := _, F_cell_at := F3, k_cell_at := k3, g_cell_at := PySem.W.mg_of X G a3, b_cell_at := F3.binds (ps := ["_law_script", "_law_k"]) (fun _ _ _ _ _ _ us hl => match us, hl with | [_, _], _ => rfl),
    f_sign_by := f4, fd_sign_by := _, F_sign_by := F4, k_sign_by := k4, g_sign_by := PySem.W.mg_of X G a4, b_sign_by := F4.binds (ps := ["_law_cell"]) (fun _ _ _ _ _ _ us hl => match us, hl with | [_], _ => rfl),
    f_signs := f5, fd_signs := _, F_signs := F5, k_signs := k5, g_signs := PySem.W.mg_of X G a5, b_signs := F5.binds (ps := ["_law_script"]) (fun _ _ _ _ _ _ us hl => match us, hl with | [_], _ => rfl),
    f_good := f6, fd_good := _, F_good := F6, k_good := k6, g_good := PySem.W.mg_of X G a6, b_good := F6.binds (ps := ["_law_signs_here"]) (fun _ _ _ _ _ _ us hl => match us, hl with | [_], _ => rfl),
    f_refused := f7, fd_refused := _, F_refused := F7, k_refused := k7, g_refused := PySem.W.mg_of X G a7, b_refused := F7.binds (ps := ["_law_signs_here"]) (fun _ _ _ _ _ _ us hl => match us, hl with | [_], _ => rfl),
    f_is_row := f8, fd_is_row := _, F_is_row := F8, k_is_row := k8, g_is_row := PySem.W.mg_of X G a8, b_is_row := F8.binds (ps := ["_law_found", "_law_signs_here"]) (fun _ _ _ _ _ _ us hl => match us, hl with | [_, _], _ => rfl),
    m_int := PySem.W.mg_none_of X G z_int,
    m_len := PySem.W.mg_none_of X G z_len,
    m_range := PySem.W.mg_none_of X G z_range,
    m_isinstance := PySem.W.mg_none_of X G z_isinstance,
    m_ValueError := PySem.W.mg_none_of X G z_ValueError,
    m_zip := PySem.W.mg_none_of X G z_zip,
    m_bool := PySem.W.mg_none_of X G z_bool,
    m_list := PySem.W.mg_none_of X G z_list,
    m_str := PySem.W.mg_none_of X G z_str,
    tok_MOST := tk_MOST, gv_MOST := PySem.W.mg_of X G v_MOST,
    c_BeatError := C_BeatError, gc_BeatError := PySem.W.mg_of X G aC_BeatError,
    c_NoRow := C_NoRow, gc_NoRow := PySem.W.mg_of X G aC_NoRow,
    c_NoStroke := C_NoStroke, gc_NoStroke := PySem.W.mg_of X G aC_NoStroke,
    c_NoWheel := C_NoWheel, gc_NoWheel := PySem.W.mg_of X G aC_NoWheel,
    c_Uneven := C_Uneven, gc_Uneven := PySem.W.mg_of X G aC_Uneven,
    x_NoRow := x_NoRow, kc_NoRow := kc_NoRow, sub_NoRow := sub_NoRow, ty_NoRow := ty_NoRow,
    h_NoRow := ⟨⟨hg_NoRow, hk_NoRow, hs_NoRow, hd_NoRow, ha_NoRow, hn0, ht0, hm_NoRow⟩, hc_NoRow⟩,
    ve_NoRow := kit_VE sVE_NoRow,
    kit_NoRow_BeatError := kit_other iC_BeatError tC_BeatError s_NoRow_BeatError n_NoRow_BeatError,
    exm_NoRow := exm_other bC_BeatError iC_BeatError tC_BeatError s_NoRow_BeatError,
    kit_NoRow_NoRow := kit_self,
    kit_NoRow_NoStroke := kit_other iC_NoStroke tC_NoStroke s_NoRow_NoStroke n_NoRow_NoStroke,
    kit_NoRow_NoWheel := kit_other iC_NoWheel tC_NoWheel s_NoRow_NoWheel n_NoRow_NoWheel,
    kit_NoRow_Uneven := kit_other iC_Uneven tC_Uneven s_NoRow_Uneven n_NoRow_Uneven }
  have FT : Fun K "law" "law" s_law fa (PySem.W.fnOf "law" "law" (defArgs s_law) (defBody s_law) (defScope s_law) .none kV9 dc9 pm9 an9 cd9 ct9) := F9
  refine ⟨_, fun s v => ?_, fun base _ _ => ok_law T FT⟩
  exact .of_eq rfl
end Eb
open PySem PySem.W PyProof.Rows
set_option maxHeartbeats 0 in
theorem PySem.Challenge.cw_evenbeat_k05_texts_holds : PySem.Challenge.rw_evenbeat_k05_texts.Holds := by
  w_on; o_law; k_head; (case hw => w_witness2)
  k_fill
  refine L2.walk_of (l := PySem.Challenge.rw_evenbeat_k05_texts) (n := 63) (k := 3) (x := "_law_script") (CX := fun _ => L2.CX0) (sp := fun w => Eb.sp_law _) rfl (by decide) rfl ⟨rfl, by decide, by decide⟩ (fun w h Y => PySem.W.kIn_of Y) ?F (fun _ _ a ns hl _ hS => ⟨a, ns, rfl, hS, hl, fun _ => rfl⟩) (fun _ _ _ _ _ h => h)
  case F =>
    intro w mg fa h KX G hmg
    refine' Eb.all_mk KX G hmg ?a1 ?l1 ?c1 ?k1 ?a2 ?l2 ?c2 ?k2 ?a3 ?l3 ?c3 ?k3 ?a4 ?l4 ?c4 ?k4 ?a5 ?l5 ?c5 ?k5 ?a6 ?l6 ?c6 ?k6 ?a7 ?l7 ?c7 ?k7 ?a8 ?l8 ?c8 ?k8 ?a9 ?l9 ?c9 ?k9 ?z_int ?z_len ?z_range ?z_isinstance ?z_ValueError ?z_zip ?z_bool ?z_list ?z_str ?v_MOST ?aC_BeatError ?iC_BeatError ?tC_BeatError ?bC_BeatError ?aC_NoRow ?iC_NoRow ?tC_NoRow ?bC_NoRow ?aC_NoStroke ?iC_NoStroke ?tC_NoStroke ?bC_NoStroke ?aC_NoWheel ?iC_NoWheel ?tC_NoWheel ?bC_NoWheel ?aC_Uneven ?iC_Uneven ?tC_Uneven ?bC_Uneven ?x_NoRow ?kc_NoRow ?sub_NoRow ?ty_NoRow ?hn0 ?ht0 ?hc_NoRow ?hg_NoRow ?hk_NoRow ?hs_NoRow ?ha_NoRow ?hm_NoRow ?hd_NoRow ?sVE_NoRow ?s_NoRow_BeatError ?n_NoRow_BeatError ?s_NoRow_NoStroke ?n_NoRow_NoStroke ?s_NoRow_NoWheel ?n_NoRow_NoWheel ?s_NoRow_Uneven ?n_NoRow_Uneven
    (case a1 => k_is)
    (case l1 => k_is)
    (case c1 => k_is)
    (case k1 => k_is)
    (case a2 => k_is)
    (case l2 => k_is)
    (case c2 => k_is)
    (case k2 => k_is)
    (case a3 => k_is)
    (case l3 => k_is)
    (case c3 => k_is)
    (case k3 => k_is)
    (case a4 => k_is)
    (case l4 => k_is)
    (case c4 => k_is)
    (case k4 => k_is)
    (case a5 => k_is)
    (case l5 => k_is)
    (case c5 => k_is)
    (case k5 => k_is)
    (case a6 => k_is)
    (case l6 => k_is)
    (case c6 => k_is)
    (case k6 => k_is)
    (case a7 => k_is)
    (case l7 => k_is)
    (case c7 => k_is)
    (case k7 => k_is)
    (case a8 => k_is)
    (case l8 => k_is)
    (case c8 => k_is)
    (case k8 => k_is)
    (case a9 => k_is)
    (case l9 => k_is)
    (case c9 => k_is)
    (case k9 => k_is)
    (case z_int => k_is)
    (case z_len => k_is)
    (case z_range => k_is)
    (case z_isinstance => k_is)
    (case z_ValueError => k_is)
    (case z_zip => k_is)
    (case z_bool => k_is)
    (case z_list => k_is)
    (case z_str => k_is)
    (case v_MOST => k_is)
    (case aC_BeatError => k_is)
    (case iC_BeatError => k_is)
    (case tC_BeatError => k_is)
    (case bC_BeatError => k_is)
    (case aC_NoRow => k_is)
    (case iC_NoRow => k_is)
    (case tC_NoRow => k_is)
    (case bC_NoRow => k_is)
    (case aC_NoStroke => k_is)
    (case iC_NoStroke => k_is)
    (case tC_NoStroke => k_is)
    (case bC_NoStroke => k_is)
    (case aC_NoWheel => k_is)
    (case iC_NoWheel => k_is)
    (case tC_NoWheel => k_is)
    (case bC_NoWheel => k_is)
    (case aC_Uneven => k_is)
    (case iC_Uneven => k_is)
    (case tC_Uneven => k_is)
    (case bC_Uneven => k_is)
    (case x_NoRow => k_exc)
    (case kc_NoRow => k_is)
    (case sub_NoRow => k_is)
    (case ty_NoRow => k_is)
    (case hn0 => k_is)
    (case ht0 => k_is)
    (case hc_NoRow => k_is)
    (case hg_NoRow => k_is)
    (case hk_NoRow => k_is)
    (case hs_NoRow => k_is)
    (case ha_NoRow => k_is)
    (case hm_NoRow => k_is)
    (case hd_NoRow => k_is)
    (case sVE_NoRow => k_is)
    (case s_NoRow_BeatError => k_is)
    (case n_NoRow_BeatError => rfl)
    (case s_NoRow_NoStroke => k_is)
    (case n_NoRow_NoStroke => rfl)
    (case s_NoRow_NoWheel => k_is)
    (case n_NoRow_NoWheel => rfl)
    (case s_NoRow_Uneven => k_is)
    (case n_NoRow_Uneven => rfl)
