import PyProof.Rows.All
import Wide.All
import OpenK.AllK
import Wide.FinOn
import PyProof.EqAt
import PyProof.EqKinds
import PyProof.TupleCall
import KE.KExcIs
import KE.GoesNew
import KE.GoesEnum
import PySem.Challenge.RW_evenbeat_k04_turns_and_counts
import HandS.ForMost
import HandS.Zip
import HandS.Rev
import HandS.RevTup
import HandS.Defaults
import HandS.ForExc
import HandS.IsInst
import HandS.ExcIs
import HandS.ExcField
import HandS.ExcInit
import HandS.ExcValue
import HandS.Wide
import HandS.Style
import HandS.Conv
set_option Elab.async false
set_option linter.all false
set_option maxRecDepth 100000
set_option maxHeartbeats 4000000
set_option exponentiation.threshold 1000
/- An exception that an except suite hands to a name, read behind the suite: try .. except X as e: v = e; isinstance of v; v.f -/
namespace Eb
open PySem PySem.Spec PyProof.Rows L2

def ExH (a : Addr) (cls : Value) (d : Option Addr) : HO := .ext fun h => ∃ (oe : Obj) (vs : Array Value), h.get? a = some oe ∧ Zc cls d oe ∧ oe.data = .fields vs

theorem exh_ok {P : Program} {w : World} {H : Hp} {h : Heap} {a : Addr} {cls : Value} {d : Option Addr} {oe : Obj} {vs : Array Value}
    (e : h.get? a = some oe) (z : Zc cls d oe) (f : oe.data = .fields vs) : ObjOk P w H h a (ExH a cls d) :=
  ⟨⟨oe, vs, e, z, f⟩, ⟨oe, e⟩, fun _ _ ⟨o, v, q, r⟩ k => ⟨o, v, k o q, r⟩⟩
theorem exh_at {P : Program} {w : World} {H : Hp} {h : Heap} {a : Addr} {cls : Value} {d : Option Addr} (hok : HOk P w H h) (e : H a = some (ExH a cls d)) :
    ∃ (oe : Obj) (vs : Array Value), h.get? a = some oe ∧ Zc cls d oe ∧ oe.data = .fields vs := by
  have t : ObjOk P w H h a (.ext fun h => ∃ (oe : Obj) (vs : Array Value), h.get? a = some oe ∧ Zc cls d oe ∧ oe.data = .fields vs) := hok a _ e
  exact t.1

section
variable {X : Cx} {pins : List (Addr × Obj)} {σ : L2.St} {H : Hp} {s : Shared} {a : Addr} {oe : Obj} {vs : Array Value} {cls : Value} {d : Option Addr}

/-- an untracked exception object of ours is tracked from here on -/
theorem hold_it (I : Inv X pins σ H s) (e : s.heap.get? a = some oe) (z : Zc cls d oe) (f : oe.data = .fields vs) (na : H a = none) (nL : a ≠ X.env.locals)
    (n0 : X.s_0.heap.get? a = none) (np : ∀ p ∈ X.pn ++ pins, p.1 ≠ a) : Inv X pins σ (upd H a (ExH a cls d)) s := by
  have was : ∀ {b : Addr} {o : Obj}, X.s_0.heap.get? b = some o → b ≠ a := fun {b o} q w => by
    rw [w, n0] at q
    cases q
  refine ⟨I.ok, I.os, I.bare,
    { keep := I.base.keep, slot := I.base.slot, there := I.base.there,
      free := fun b o q n hx => (upd_ne (was q)).trans (I.base.free b o q n hx),
      tups := fun b xs q => (upd_ne (ne_of_none (I.base.tups b xs q) na)).trans (I.base.tups b xs q),
      frzs := fun b o u q => (upd_ne (ne_of_none (I.base.frzs b o u q) na)).trans (I.base.frzs b o u q),
      tbls := fun b ps q => ?_ }, I.loc, I.cell, (upd_ne (Ne.symm nL)).trans I.free, fun x c q => ?_, fun p hp => ?_, fun b o q => ?_, I.len⟩
  · obtain ⟨more, r⟩ := I.base.tbls b ps q
    exact ⟨more, (upd_ne (ne_of_none r na)).trans r⟩
  · have ca : c ≠ a := fun w => by
      obtain ⟨v, o, ho, hd⟩ := I.cell x c q
      rw [w, e] at ho
      cases ho
      rw [f] at hd
      cases hd
    exact (upd_ne ca).trans (I.freeC x c q)
  · obtain ⟨h1, h2, h3⟩ := I.pin p hp
    exact ⟨h1, (upd_ne (np p hp)).trans h2, h3⟩
  · by_cases hb : b = a
    · rw [hb, upd_same] at q
      rw [hb]
      cases q
      exact exh_ok e z f
    · rw [upd_ne hb] at q
      exact (I.hok b o q).stay (fun _ _ _ r => r) (fun c r => (upd_ne (ne_of_none r na)).trans r) fun c xs r => (upd_ne (ne_of_none r na)).trans r
end

/-- what «except x as n: m = n» wishes of an exception of the body (it is caught; n in slot i, m in slot j) -/
def wHeld (K : PySem.W.Frag) (c : Value) (i j : Nat) (D : Ends) : WX := fun cls d σ H => PySem.W.exmOne K cls c = some true ∧
  ∀ a, H a = none → D.nx (((σ.set i (some (.ref a))).set j (some (.ref a))).set i none) (upd H a (ExH a cls d))

section
variable {X : Cx} {x n m : Str} {c : Value} {i j : Nat} {body : List Stmt} {p1 p2 p3 np pos pos' : Pos} {tb : WX → TS}
theorem ps_try_held (hs : X.stack = X.env :: X.outer) (hf : X.env.frame = some X.env.locals) (hex : X.ex = []) (hN : X.N.Nodup) (hi : X.N[i]? = some n) (hln : X.env.kindOf n = some .local)
    (hj : X.N[j]? = some m) (hlm : Loc X.env.scope m) (hfm : X.fn m = true ∨ X.env.scope.names.lookup m = some .local) (hc : Names X x c) (hdn : (n == ("__debug__" : Str)) = false) (hcn : (n == ("__classdict__" : Str)) = false)
    (hb : ∀ (W : WX) (pn : List (Addr × Obj)) (xe : Value → Shared → Prop), Takes (X.tr pn xe) W → PassesOwn (model X.prog X.w) X.A X.env xe → PSs (X.tr pn xe) body (tb W)) :
    PS X (.Try body [.ExceptHandler (some (.Name x np)) (some n) [.Assign [.Name m p1] (.Name n p2) p3] pos'] [] [] pos) (fun D σ H => tb (wHeld X.K c i j D) D σ H) := by
  constructor
  intro pins s σ H D I h
  have ok := I.ok
  have A1 : X.A.frames = some (X.env :: X.outer) := by rw [ok.frames, hs]
  refine wpAny_Try_except ?_
  have R := (hb (wHeld X.K c i j D) (X.pn ++ pins)
    (fun e s1 => wpAny (model X.prog X.w) X.A (noteFrame e X.env)
      (fun _ s2 => wpAny (model X.prog X.w) X.A (setFlight e none)
        (fun _ s3 => wpAny (model X.prog X.w) X.A (handleBy e X.env [.ExceptHandler (some (.Name x np)) (some n) [.Assign [.Name m p1] (.Name n p2) p3] pos']) (SP X pins D) X.xe s3)
        X.xe s2) X.xe s1)
    (fun u s' xx => ?_) PassesOwn.looking).run [] s σ H D (I.toTry _) h
  · refine wpAny_mono R (fun f s1 r => ?_) fun _ _ r => r
    cases f with
    | next =>
      obtain ⟨σ1, H1, J, q⟩ := r
      exact wpAny_execs_nil ⟨σ1, H1, J.ofTry ok, q⟩
    | ret u =>
      obtain ⟨v, σ1, H1, J, t, q⟩ := r
      exact ⟨v, σ1, H1, J.ofTry ok, t, q⟩
    | brk =>
      obtain ⟨σ1, H1, J, q⟩ := r
      exact ⟨σ1, H1, J.ofTry ok, q⟩
    | cont =>
      obtain ⟨σ1, H1, J, q⟩ := r
      exact ⟨σ1, H1, J.ofTry ok, q⟩
  -- what the body raised
  obtain ⟨a, B, sI, pn1, σ1, H1, cls, d, rfl, J1, nb, up, sky, na, os, ag, hit, go⟩ := xx
  have J : Inv X pins σ1 H1 sI := J1.ofTry ok
  have sky1 : Sky B (X.env :: X.outer) a (Zc cls d) X.env.locals s'.heap := hs ▸ sky
  show wpAny (model X.prog X.w) X.A (noteFrame (.ref a) X.env) _ _ _
  refine Sky.land Zc.steady A1 hf sky1 fun h3 fl up3 => ?_
  have J3 : Inv X pins σ1 H1 { s' with heap := h3 } := J.landed nb fl.1 (up.trans up3) os ag
  obtain ⟨o3, v3, e3, z3, d3⟩ := fl.there
  have off : a ∉ frs (X.env :: X.outer) := fun hm => by
    obtain ⟨_, o, e, hnf⟩ := fl.2.2.1.mem hm
    rw [e3] at e
    cases e
    exact hnf _ d3
  have nL : a ≠ X.env.locals := fun z => off (List.mem_filterMap.mpr ⟨X.env, List.mem_cons_self, by rw [hf, z]⟩)
  have nF : a ∉ X.fs := fun hm => by
    obtain ⟨e, he, q⟩ := List.mem_filterMap.mp hm
    exact off (List.mem_filterMap.mpr ⟨e, List.mem_cons_of_mem _ he, q⟩)
  have new : ∀ b o, sI.heap.get? b = some o → b ∉ frs X.stack → b ≠ a := fun b o q hb z => by
    have t := nb b o q hb
    rw [z, fl.2.1] at t
    cases t
  have offS : a ∉ frs X.stack := by rw [hs]; exact off
  have n0 : X.s_0.heap.get? a = none := by
    cases q : X.s_0.heap.get? a with
    | none => rfl
    | some o =>
      obtain ⟨o1, q1⟩ := J.base.there a o q (by rw [hex]; exact fun z => nomatch z)
      exact absurd rfl (new a o1 q1 offS)
  have nP : ∀ p ∈ X.pn ++ pins, p.1 ≠ a := fun p hp => by
    obtain ⟨q1, q2, q3, q4, _⟩ := J.pin p hp
    refine new p.1 p.2 q1 fun hm => ?_
    rw [hs] at hm
    obtain ⟨e, he, q⟩ := List.mem_filterMap.mp hm
    rcases List.mem_cons.mp he with w | w
    · rw [w, hf] at q
      exact q3 (Option.some.inj q).symm
    · exact q4 (List.mem_filterMap.mpr ⟨e, w, q⟩)
  have S3 := J3.suite e3 d3 na nL nF
  refine wpAny_handleBy_cons (codeAny_handlers_test ?_) (by intro q; cases q)
  have LT : PySem.W.Looks (model X.prog X.w) h3 (typeOf (.ref a)) cls := fun A Q E s k q => wpAny_typeOf_ref (k _ _ e3) (by rw [z3.1]; exact q)
  have LM := PySem.W.exm_one (M := model X.prog X.w) J3.kIn LT hit
  have read : ∀ {Q E : Value → Shared → Prop}, Q c { s' with heap := h3 } → wpAny (model X.prog X.w) (X.A.mark (some (.ref a))) (eval (.Name x np) X.env) Q E { s' with heap := h3 } := fun {Q E} q => by
    obtain ⟨g1, g2, g3⟩ := hc
    rcases g3 with g | ⟨g, g4, g5⟩
    · exact ld_glob (X := X.suite a ((a, o3) :: (X.pn ++ pins))) S3 g1 g q g2
    · exact ld_blt (X := X.suite a ((a, o3) :: (X.pn ++ pins))) S3 g1 g g4 q g5 g2
  refine read (LM.here (codeAny_handlers_suite_as ?_))
  refine HandSPX.lands_againZ fl fun h4 fl4 up4 => ?_
  have J4 : Inv X pins σ1 H1 { s' with heap := h4 } := J.landed nb fl4.1 ((up.trans up3).trans up4) os ag
  obtain ⟨o4, v4, e4, z4, d4⟩ := fl4.there
  have S4 := J4.suite e4 d4 na nL nF
  refine store_ok (X := X.suite a ((a, o4) :: (X.pn ++ pins))) (v := .ref a) S4 hN hi (.inl hln) rfl (fun s5 S5 => ?_) (.inr hln)
  have W : PSs (X.suite a ((a, o4) :: (X.pn ++ pins))) [.Assign [.Name m p1] (.Name n p2) p3] (tAsg (tVar i) (gName j)) :=
    pss_one (ps_set (X := X.suite a ((a, o4) :: (X.pn ++ pins))) (i := j) hN hj hlm (pe_var (X := X.suite a ((a, o4) :: (X.pn ++ pins))) hi (.inl hln) hdn hcn) (by rfl) hfm)
  have lt : i < σ1.length := by
    rw [J.len]
    exact (List.getElem?_eq_some_iff.mp hi).1
  refine wpAny_mono (W.run [] s5 _ H1 { nx := fun σ' H' => σ' = (σ1.set i (some (.ref a))).set j (some (.ref a)) ∧ H' = H1, rt := fun _ _ => False, bk := fun _ _ => False, ct := fun _ _ => False } S5 ⟨.ref a, List.getElem?_set_self lt, rfl, rfl⟩) (fun f s6 r => ?_) (fun _ _ z => z.elim)
  cases f with
  | next =>
    obtain ⟨σ6, H6, S6, rfl, rfl⟩ := r
    have pa := S6.pin (a, o4) (List.mem_append_left _ List.mem_cons_self)
    have J6 : Inv X pins _ H6 s6 := S6.unsuite ok
    have K6 : Inv X ((a, o4) :: pins) _ H6 s6 := J6.pins_of fun p hp => by
      rcases List.mem_cons.mp hp with w | w
      · rw [w]
        exact pa
      · exact J6.pin p (List.mem_append_right _ w)
    refine gone_ok K6 hN hi hln fun s7 J7 => ?_
    have p7 := J7.pin (a, o4) (List.mem_append_right _ List.mem_cons_self)
    have M7 : Inv X pins _ H6 s7 := J7.pins_of fun p hp => J7.pin p (List.mem_append_right _ (List.mem_cons_of_mem _ hp))
    exact ⟨_, _, hold_it M7 p7.1 z4 d4 p7.2.1 nL n0 nP, go a na⟩
  | ret u =>
    obtain ⟨_, _, _, _, _, q⟩ := r
    exact q.elim
  | brk =>
    obtain ⟨_, _, _, q⟩ := r
    exact q.elim
  | cont =>
    obtain ⟨_, _, _, q⟩ := r
    exact q.elim
end

/-! ### isinstance of such a held exception -/
/-- what the class D must say: as of one that a suite holds, and that it is a class of the text -/
structure HeldC (K : PySem.W.Frag) (D : Addr) : Prop extends ExcC K D where
  hc : (PySem.W.clsIn K D).isSome = true

/-- the held exception stands as an instance of its class -/
def Stood (H : Hp) (a D : Addr) (d : Option Addr) : Prop := H a = some (ExH a (.ref D) d) ∧ ∀ dd, d = some dd → ∃ fs, H dd = some (.xd fs)
theorem stood_inst {P : Program} {w : World} {H : Hp} {h : Heap} {a D : Addr} {d : Option Addr} (hok : HOk P w H h) (t : Stood H a D d) : ∃ ox od, PySem.W.InstAt h a ox D od := by
  obtain ⟨oe, vs, e, z, f⟩ := exh_at hok t.1
  cases d with
  | none => exact ⟨oe, none, e, z.1, by unfold PySem.W.notCls; rw [f] <;> rfl, by rw [z.2]; trivial⟩
  | some dd =>
    obtain ⟨fs, q⟩ := t.2 dd rfl
    have x : ObjOk P w H h dd (.xd fs) := hok dd _ q
    obtain ⟨mA, hns, _⟩ := x
    obtain ⟨o, _, _, ho, _⟩ := hns
    exact ⟨oe, some o, e, z.1, by unfold PySem.W.notCls; rw [f] <;> rfl, by rw [z.2]; exact ho⟩
section
variable {X : Cx}
def rIsH (K : PySem.W.Frag) : List V → Hp → VK → Prop := fun xs H Q => ∃ (a D : Addr) (d : Option Addr) (c : V) (cv : Value) (b : Bool), xs = [.ref a, c] ∧ Stood H a D d ∧ HeldC K D ∧ ClsV c cv ∧ PySem.W.kitOne K (.ref D) cv = some b ∧ Q (.bl b) H
def rIsHT (K : PySem.W.Frag) : List V → Hp → VK → Prop := fun xs H Q => ∃ (a D tp : Addr) (d : Option Addr) (cs : List V) (us : List Value) (b : Bool), xs = [.ref a, .ref tp] ∧ Stood H a D d ∧ HeldC K D ∧ H tp = some (.tup cs) ∧ Paired ClsV cs us ∧ PySem.W.kitAny K (.ref D) us = some b ∧ Q (.bl b) H
theorem held_kit {D a : Addr} {od : Option Obj} {ox : Obj} {K : PySem.W.Frag} (C : HeldC K D) : PySem.W.KitX K (.ref a) (.ref D) (fun h => PySem.W.InstAt h a ox D od) :=
  PySem.W.kitx_exc C.hc C.hg C.hk C.hs C.ha C.hn C.ht C.hm
theorem call_isH : CallR X (.builtin "isinstance") (rIsH X.K) := by
  intro pins s σ H xs us Q I r h
  obtain ⟨a, D, d, c, cv, b, rfl, st, C, kc, e, q⟩ := h
  obtain ⟨u1, u2, rfl, r1, r2⟩ := vals2 r
  cases (show u1 = Value.ref a from r1)
  have e2 := kc.eq r2
  subst e2
  obtain ⟨ox, od, J⟩ := stood_inst I.hok st
  exact PySem.W.kia_one (held_kit C) I.kIn J e (fun z => nomatch z) fun tk => ⟨.bl b, H, I.tok tk, rfl, q⟩
theorem call_isHT : CallR X (.builtin "isinstance") (rIsHT X.K) := by
  intro pins s σ H xs us Q I r h
  obtain ⟨a, D, tp, d, cs, ws, b, rfl, st, C, hT, kc, e, q⟩ := h
  obtain ⟨u1, u2, rfl, r1, r2⟩ := vals2 r
  cases (show u1 = Value.ref a from r1)
  cases (show u2 = Value.ref tp from r2)
  obtain ⟨ox, od, J⟩ := stood_inst I.hok st
  obtain ⟨_, its, rv, o, h1, h2, n, h3⟩ := (show ObjOk X.prog X.w H s.heap tp (.tup cs) from I.hok tp _ hT)
  have e3 := ClsV.all kc rv
  subst e3
  obtain ⟨oc, od', dt, sl⟩ := o
  simp only at h2 h3
  subst h2 h3
  exact PySem.W.kia_tup (held_kit C) I.kIn J h1 e (fun z => nomatch z) fun tk => ⟨.bl b, H, I.tok tk, rfl, q⟩
end
/-- v.f of a held exception whose own dict stands at dd -/
def tHeldF (K : PySem.W.Frag) (f : Str) (te : TE) : TE := fun σ H Q => te σ H fun x H1 => ∃ (a D dd : Addr) (fs : List (Str × V)) (v : V), x = .ref a ∧ H1 a = some (ExH a (.ref D) (some dd)) ∧ H1 dd = some (.xd fs) ∧ HeldC K D ∧ PySem.W.findIn K (.ref D) f = some none ∧ fs.lookup f = some v ∧ Q v H1
theorem pe_heldF {X : Cx} {e : Expr} {te : TE} {pos : Pos} {n : Str} (he : PE X e te) (hb : attributeBase e n X.env (eval e X.env) = eval e X.env := by rfl) : PE X (.Attribute e n pos) (tHeldF X.K n te) := by
  refine ⟨fun pins s σ H Q I h => ?_⟩
  refine attr_of hb (thn (he.run pins s σ H _ I h) fun u s1 hh => ?_)
  obtain ⟨x, H1, I1, rx, a, D, dd, fs, v, rfl, ea, ed, C, hno, l, q⟩ := hh
  obtain rfl : u = Value.ref a := rx
  obtain ⟨oe, vs, e4, z, hd⟩ := exh_at I1.hok ea
  have hx : ObjOk X.prog X.w H1 s1.heap dd (.xd fs) := I1.hok dd _ ed
  obtain ⟨mA, hns, hr⟩ := hx
  obtain ⟨od, ho, hl⟩ := lookIn_ns hns
  obtain ⟨u, hu, ru⟩ := RelO.some_of (v := v) (o := mA n) (by rw [← l]; exact hr n)
  have J : PySem.W.InstAt s1.heap a oe D (some od) := ⟨e4, z.1, by unfold PySem.W.notCls; rw [hd] <;> rfl, by rw [z.2]; exact ho⟩
  exact HandSPX.exc_get I1.kIn J C.hg C.hk C.hs (PySem.W.findObj_own C.hd hno rfl (by rw [hl, hu])) (handed_of ru) ⟨v, H1, I1.tok _, ru, q⟩
end Eb
namespace Eb
open PySem PySem.Spec PyProof.Rows L2
theorem kit_self {K : PySem.W.Frag} {D : Addr} : PySem.W.kitOne K (.ref D) (.ref D) = some true := by
  unfold PySem.W.kitOne
  rw [if_pos (by simp)]
theorem kit_cls {K : PySem.W.Frag} {D C : Addr} {b : Bool} (i : PySem.W.isClsIn K C = true) (t : PySem.W.typeIn K (.ref C) = some (.type "type")) (s : PySem.W.subIn K (.ref D) (.ref C) = some b) : PySem.W.kitCls K (.ref D) (.ref C) = some b := by
  have i2 : (PySem.W.clsIn K C).isSome = true := i
  unfold PySem.W.kitCls
  dsimp only
  rw [i2, t, if_pos (by rfl), s]
theorem kit_other {K : PySem.W.Frag} {D C : Addr} {b : Bool} (i : PySem.W.isClsIn K C = true) (t : PySem.W.typeIn K (.ref C) = some (.type "type")) (s : PySem.W.subIn K (.ref D) (.ref C) = some b) (n : (D == C) = false) : PySem.W.kitOne K (.ref D) (.ref C) = some b := by
  unfold PySem.W.kitOne
  have e : (Value.ref D == Value.ref C) = false := by
    have n' : D ≠ C := by simpa using n
    simpa using n'
  rw [e, if_neg Bool.false_ne_true]
  exact kit_cls i t s
theorem exm_other {K : PySem.W.Frag} {D C : Addr} {b : Bool} (x : PySem.W.subIn K (.ref C) (.type "BaseException") = some true) (i : PySem.W.isClsIn K C = true) (t : PySem.W.typeIn K (.ref C) = some (.type "type")) (s : PySem.W.subIn K (.ref D) (.ref C) = some b) :
    PySem.W.exmOne K (.ref D) (.ref C) = some b := by
  unfold PySem.W.exmOne
  rw [x, if_pos (by rfl)]
  exact kit_cls i t s
theorem kit_VE {K : PySem.W.Frag} {D : Addr} {b : Bool} (s : PySem.W.subIn K (.ref D) (.type "ValueError") = some b) : PySem.W.kitOne K (.ref D) (.type "ValueError") = some b := by
  unfold PySem.W.kitOne
  rw [if_neg (by simp)]
  show (if PySem.W.kitMeta "ValueError" = true then PySem.W.subIn K (.ref D) (.type "ValueError") else none) = some b
  rw [if_pos (by decide +kernel), s]
end Eb
/- list(reversed(a list)): a new list -/
namespace Eb
open PySem PySem.Spec PyProof.Rows RT
section
variable {prog : Program} {w : World} {A : Around} {E : Value → Shared → Prop} {s : Shared} {it l S : Addr} {xs : Array Value}
/-- how a code's step is asked for (the answer R) -/
abbrev Steps (prog : Program) (w : World) (A : Around) (R : Result → Shared → Prop) (c : Sem Fin) (s : Shared) : Prop :=
  wpAny (model prog w) A.in1 c (fun f s' => match f with | .done f => R (.ok f) s' | .again c' => c'.quiet = true ∧ codeAny (model prog w) A c' R s') (fun e s' => R (.error e) s') s
/-- the list at S has got xs from behind; but for S and the iterator at I all stands -/
def Got (xs : Array Value) (S I : Addr) (h h' : Heap) : Prop := (∀ b o, b ≠ S → b ≠ I → h.get? b = some o → h'.get? b = some o) ∧
  ∃ acc c, h'.get? S = some { cls := .type "list", dict := none, data := .seq acc c, slots := #[] } ∧ ItemsOf (fun i v => xs[xs.size - 1 - i]? = some v) acc xs.size
theorem rev_room {Q : Bool → Shared → Prop} (ty : s.TypeIs (.ref it) "list_reverseiterator") (h : Q false s) : wpAny (model prog w) A (Builtin.List.listLengthHint (.ref it)) Q E s := by
  obtain ⟨id, is⟩ : ∃ id : String, id = "list_reverseiterator.__length_hint__" := ⟨_, rfl⟩
  have has : typeLookup (.type "list_reverseiterator") "__length_hint__" = pure (some (.builtin id)) := by rw [is]; exact hint_lri
  have parts : splitId id = some ("list_reverseiterator", "__length_hint__") := by rw [is]; decide +kernel
  have own : isSubtype (.type "list_reverseiterator") (.type "list_reverseiterator") = pure true := by rw [isSubtype_type]; kernel_rfl
  unfold Builtin.List.listLengthHint
  wp_walk using wpAny_specialOf ty nolen_lri, wpAny_specialOf ty has
  rw [parts]
  subst is
  refine wpAny_bind (wpAny_isInstance ty own (wpAny_ite_split (fun no => nomatch no) fun _ => wpAny_ite_split (fun _ => ?_) fun no => absurd (by decide +kernel) no))
  exact wpAny_ite_split (fun no => absurd no (by decide +kernel)) fun _ => wpAny_pure h
theorem got_more (free : A.handled = none) {R : Result → Shared → Prop} {c : Nat} (res : Value) (itAt : s.heap.IsRevIter it l ((xs.size : Int) - 1)) (lAt : s.heap.IsList l xs) (ne : l ≠ it) (few : xs.size ≤ sizeLine) (Si : S ≠ it) (Sl : S ≠ l)
    (SAt : s.heap.get? S = some { cls := .type "list", data := .seq #[] c }) (then' : ∀ h' tk, Got xs S it s.heap h' → R (.ok (.ret res)) { s with heap := h', toks := tk }) :
    Steps prog w A R (Builtin.List.listExtendWith (.ref S) (.ref it) res) s := by
  have ty : s.TypeIs (.ref it) "list_reverseiterator" := itAt.typeIs
  have apart : Builtin.List.listSameRef (.ref S) (.ref it) = false := by simp [Builtin.List.listSameRef, Si]
  have goes := (Walks.listRev (prog := prog) (w := w) (A := A.in1) free it l ne xs).toS
  have off : S ∉ [it, l] := by simp [Si, Sl]
  have first : (0 : Nat) ≤ xs.size ∧ s.heap.IsRevIter it l ((xs.size : Int) - 1 - ((0 : Nat) : Int)) := ⟨Nat.zero_le _, by rw [Int.natCast_zero, Int.sub_zero]; exact itAt⟩
  unfold Steps Builtin.List.listExtendWith
  wp_walk using wpAny_pyIter_revIter itAt, rev_room ty
  refine ⟨plainId_quiet F.plain_extend_loop _, codeAny_extend_loopS goes few S off res xs.size 0 s #[] c rfl first.1 ⟨first.1, first.2, lAt⟩ SAt (ItemsOf.nil _) fun s' acc c' moved made are => ?_⟩
  rw [Moved.eq_with moved]
  exact then' _ _ ⟨fun b o bS bI at' => moved.heap b o (by simp [bS, bI]) at', acc, c', made, are⟩
theorem got_new (free : A.handled = none) {R : Result → Shared → Prop} (itAt : s.heap.IsRevIter it l ((xs.size : Int) - 1)) (lAt : s.heap.IsList l xs) (ne : l ≠ it) (few : xs.size ≤ sizeLine) (Si : S ≠ it) (Sl : S ≠ l)
    (SAt : s.heap.get? S = some { cls := .type "list", data := .seq #[] }) (then' : ∀ h' tk, Got xs S it s.heap h' → R (.ok (.ret .none)) { s with heap := h', toks := tk }) :
    Steps prog w A R (Builtin.«list.__init__» ⟨[.ref S, .ref it], []⟩) s := by
  unfold Steps Builtin.«list.__init__»
  generalize more : Builtin.List.listExtendWith = ext
  wp_walk
  rw [← more]
  obtain ⟨oi, ai, ri⟩ := itAt
  obtain ⟨ol, al, rl⟩ := lAt
  have stays : ∀ b o, b ≠ S → s.heap.get? b = some o → (s.heap.update S (Obj.mapSeq fun _ => #[])).get? b = some o := fun b o d z => by rw [Heap.get?_update_other _ _ (Ne.symm d)]; exact z
  exact got_more free .none ⟨oi, stays _ _ (Ne.symm Si) ai, ri⟩ ⟨ol, stays _ _ (Ne.symm Sl) al, rl⟩ ne few Si Sl (Heap.get?_update_self _ SAt rfl) fun h' tk g => then' h' tk ⟨fun b o bS bI z => g.1 b o bS bI (stays b o bS z), g.2⟩
/-- list(the iterator): a new list at the heap's end -/
theorem new_rev {Q : Value → Shared → Prop} (free : A.handled = none) (itAt : s.heap.IsRevIter it l ((xs.size : Int) - 1)) (lAt : s.heap.IsList l xs) (ne : l ≠ it) (few : xs.size ≤ sizeLine)
    (then' : ∀ h' tk, (∀ b o, b ≠ it → s.heap.get? b = some o → h'.get? b = some o) → (∃ acc c, h'.get? s.heap.objs.size = some { cls := .type "list", dict := none, data := .seq acc c, slots := #[] } ∧ ItemsOf (fun i v => xs[xs.size - 1 - i]? = some v) acc xs.size) →
      Q (.ref s.heap.objs.size) { s with heap := h', toks := tk }) : wpAny (model prog w) A (call (.type "list") [.ref it]) Q E s := by
  let N : Obj := { cls := .type "list", data := .seq #[] }
  have more : ∀ b o, s.heap.get? b = some o → (s.heap.push N).get? b = some o := fun b o z => Heap.get?_push_of_some _ z
  have at' : (s.heap.push N).get? s.heap.objs.size = some N := Heap.get?_push_size _ rfl
  obtain ⟨oi, ai, ri⟩ := itAt
  obtain ⟨ol, al, rl⟩ := lAt
  refine callType_codes (Q₁ := fun v t => v = .ref s.heap.objs.size ∧ t = { s with heap := s.heap.push N }) F.called_list (F.typeCall_list_1 _) F.entry_list_init (code_list_new _ ⟨rfl, rfl⟩) ?_
  rintro v t ⟨rfl, rfl⟩
  refine ⟨⟨N, at', rfl⟩, F.args_list_init_2 _ _, got_new (A := A.in1) free ⟨oi, more _ _ ai, ri⟩ ⟨ol, more _ _ al, rl⟩ ne few (Nat.ne_of_gt (Heap.lt_size ai)) (Nat.ne_of_gt (Heap.lt_size al)) at' fun h' tk g => ⟨rfl, ?_⟩⟩
  exact then' h' tk (fun b o bI z => g.1 b o (Nat.ne_of_lt (Heap.lt_size z)) bI (more b o z)) g.2
end
end Eb
namespace Eb
open PySem PySem.Spec PyProof.Rows L2
section
variable {X : Cx}
def tLstRev (K : PySem.W.Frag) (te : TE) : TE := fun σ H Q => te σ H fun v H1 => ∃ (a : Addr) (xs : List V), v = .ref a ∧ SqL K H1 a xs ∧ ∀ q, H1 q = none → Q (.ref q) (upd H1 q (.lst xs.reverse))
theorem pe_listRev {e : Expr} {te : TE} {p p2 pos pos2 : Pos} (calm : X.calm = true) (gl : Gl X "list") (ml : X.mg "list" = none) (gr : Gl X "reversed") (mr : X.mg "reversed" = none) (he : PE X e te)
    (one : starEach [e] X.env = (false, eval e X.env) :: starEach [] X.env := by rfl)
    (two : starEach [.Call (.Name "reversed" p2) [e] [] pos2] X.env = (false, eval (.Call (.Name "reversed" p2) [e] [] pos2) X.env) :: starEach [] X.env := by rfl) :
    PE X (.Call (.Name "list" p) [.Call (.Name "reversed" p2) [e] [] pos2] [] pos) (tLstRev X.K te) where
  run pins s σ H Q I wish := by
    have inner := fun (W : Value → Shared → Prop) (k : ∀ (a : Addr) (xs : List V) (s1 : Shared) (H1 : Hp), Inv X pins σ H1 s1 → SqL X.K H1 a xs → (∀ q, H1 q = none → Q (.ref q) (upd H1 q (.lst xs.reverse))) → wpAny (model X.prog X.w) X.A (call (.type "reversed") [.ref a]) W X.xe s1) =>
      (Call_ (ld_blt I gr mr PyProof.Rows.boot_reversed (PyProof.Rows.callWith_type1 (args_cons (thn (he.run pins s σ H _ I wish) fun u s1 ⟨v, H1, I1, r1, a, xs, ev, at', q⟩ => args_nil (by
        subst ev
        cases r1
        exact k a xs s1 H1 I1 at' q)) one) one rfl)) : wpAny (model X.prog X.w) X.A (eval (.Call (.Name "reversed" p2) [e] [] pos2) X.env) W X.xe s)
    refine Call_ (ld_blt I gl ml PyProof.Rows.boot_list (PyProof.Rows.callWith_type1 (args_cons (inner _ fun a xs s1 H1 I1 at' q => ?_) two) two rfl))
    obtain ⟨us, vals, there, few⟩ := I1.list at'
    have len := vals.length
    refine call_reversed_list there.isList (args_nil ?_)
    let O := revObj a ((us.toArray.size : Int) - 1)
    have I2 : Inv X pins σ H1 { s1 with heap := s1.heap.push O } := I1.kept (t' := s1.toks) fun b o z => Heap.get?_push_of_some _ z
    have lt : a < s1.heap.objs.size := by
      obtain ⟨o, z, _⟩ := id there.isList
      exact Heap.lt_size z
    refine new_rev (s := { s1 with heap := s1.heap.push O }) (I1.ok.hd calm) ⟨O, Heap.get?_push_size _ rfl, rfl, rfl⟩ (there.isList.push O) (Nat.ne_of_lt lt) (by rw [List.size_toArray, ← len]; exact few) ?_
    rintro h' tk keep ⟨acc, c, got, items⟩
    have I3 := I2.turnedNew (t' := tk) (ch := [s1.heap.objs.size]) (T := (s1.heap.push O).objs.size) (ob := .lst xs.reverse) (fun b o off z => keep b o (fun w => off (by rw [w]; exact List.mem_cons_self)) z) (fun b m => by
      rw [List.mem_singleton.mp m]
      exact I1.fpOk (Nat.le_refl _) (I1.hok.fresh (Nat.le_refl _))) (Nat.le_refl _) ⟨by rw [List.length_reverse]; exact few, acc.toList, c, RT.vals_rev vals items, by rw [Array.toArray_toList]; exact got⟩
    exact ⟨.ref _, _, I3, rfl, q _ (I2.hok.fresh (Nat.le_refl _))⟩
theorem rd_lrev {K : PySem.W.Frag} {te : TE} {σ : L2.St} {H : Hp} {Q : VK} (q : te σ H fun v H1 => ∃ (a : Addr) (xs : List V), v = .ref a ∧ SqL K H1 a xs ∧ ∀ q, H1 q = none → Q (.ref q) (upd H1 q (.lst xs.reverse))) : tLstRev K te σ H Q := q
end
end Eb
/-! readings, one step a lemma; «walk_at "rd"» takes the steps that need no thought -/
namespace Eb
open PySem PySem.Spec PyProof.Rows L2
section
variable {σ : L2.St} {H : Hp} {Q : VK} {D : Ends} {v x y : V} {ta tb te : TE} {tr : TA} {t u : TS} {c c' : TT} {i j : Int} {k : Bool} {R : L2.St → Hp → Prop} {QT : Bool → Hp → Prop} {QA : List V → Hp → Prop}
theorem rd_var {n : Nat} (h : σ[n]? = some (some v)) (q : Q v H) : tVar n σ H Q := ⟨v, h, q⟩
theorem rd_c (q : Q v H) : tC v σ H Q := q
theorem rd_op {r : R2} (q : ta σ H fun x H1 => tb σ H1 fun y H2 => r x y H2 Q) : tOp r ta tb σ H Q := q
theorem rd_un {r : V → Hp → VK → Prop} (q : ta σ H fun x H1 => r x H1 Q) : tUn r ta σ H Q := q
theorem rd_I0 {g : Int → Int → V} (q : Q (g i j) H) : rI0 g (.int i) (.int j) H Q := ⟨i, j, rfl, rfl, q⟩
theorem rd_I {C : Int → Int → Prop} {g : Int → Int → V} (hc : C i j) (q : Q (g i j) H) : rI C g (.int i) (.int j) H Q := ⟨i, j, rfl, rfl, hc, q⟩
theorem rd_U {g : Int → V} (q : Q (g i) H) : rU g (.int i) H Q := ⟨i, rfl, q⟩
theorem rd_eqI (q : Q (.bl (decide (V.int i = V.int j))) H) : rEq (.int i) (.int j) H Q := ⟨rfl, q⟩
theorem rd_neI (q : Q (.bl (!decide (V.int i = V.int j))) H) : rNe (.int i) (.int j) H Q := ⟨rfl, q⟩
theorem rd_cons (q : ta σ H fun x H1 => tr σ H1 fun xs H2 => QA (x :: xs) H2) : tCons ta tr σ H QA := q
theorem rd_nil (q : QA [] H) : tNil σ H QA := q
theorem rd_cb {r : List V → Hp → VK → Prop} (q : tr σ H fun vs H1 => r vs H1 Q) : tCB r tr σ H Q := q
theorem rd_call {sp : Sp} {dvs : List V} {E : XK} (q : tr σ H fun vs H1 => sp (vs ++ dvs) H1 Q E) : tCall sp dvs E tr σ H Q := q
theorem rd_callS {sp : Sp} {E : L2.St → XK} (q : tr σ H fun vs H1 => sp vs H1 Q (E σ)) : tCallS sp E tr σ H Q := q
theorem rd_test (q : te σ H fun x H' => ∃ k, x = .bl k ∧ QT k H') : tTest te σ H QT := q
theorem rd_tb (q : te σ H fun x H' => ∃ k, x = .bl k ∧ QT k H') : tB te σ H QT := q
theorem rd_bl {q' : Bool → Prop} (q : q' k) : ∃ k', V.bl k = .bl k' ∧ q' k' := ⟨k, rfl, q⟩
theorem rd_and (q : c σ H fun b H1 => if b = true then c' σ H1 QT else QT false H1) : tAnd c c' σ H QT := q
theorem rd_or (q : c σ H fun b H1 => if b = true then QT true H1 else c' σ H1 QT) : tOr c c' σ H QT := q
theorem rd_not (q : c σ H fun b H1 => QT (!b) H1) : tNot c σ H QT := q
theorem rd_andV (q : ta σ H fun x H1 => ∃ b, x = .bl b ∧ if b = true then tb σ H1 Q else Q (.bl false) H1) : tAndV ta tb σ H Q := q
theorem rd_orV (q : ta σ H fun x H1 => ∃ b, x = .bl b ∧ if b = true then Q (.bl true) H1 else tb σ H1 Q) : tOrV ta tb σ H Q := q
theorem rd_notV (q : ta σ H fun x H1 => ∃ b, x = .bl b ∧ Q (.bl (!b)) H1) : tNotV ta σ H Q := q
theorem rd_ifE (q : c σ H fun b H1 => if b = true then ta σ H1 Q else tb σ H1 Q) : tIf c ta tb σ H Q := q
theorem rd_asg {g : TG} (q : te σ H fun x H1 => g x σ H1 D.nx) : tAsg te g D σ H := q
theorem rd_gn {n : Nat} (q : R (σ.set n (some v)) H) : gName n v σ H R := q
theorem rd_seq (q : t { D with nx := u D } σ H) : tSeq t u D σ H := q
theorem rd_ret (q : te σ H D.rt) : tRet te D σ H := q
theorem rd_ifS (q : c σ H fun b H1 => if b = true then t D σ H1 else u D σ H1) : tIfS c t u D σ H := q
theorem rd_drop (q : te σ H fun _ H1 => D.nx σ H1) : tDrop te D σ H := q
theorem rd_next (q : D.nx σ H) : tNext D σ H := q
theorem rd_tup (q : tr σ H fun xs H1 => xs.length ≤ sizeLine ∧ ∀ p, H1 p = none → Q (.ref p) (upd H1 p (.tup xs))) : tTup tr σ H Q := q
theorem rd_lst (q : tr σ H fun xs H1 => xs.length ≤ sizeLine ∧ ∀ p, H1 p = none → Q (.ref p) (upd H1 p (.lst xs))) : tLst tr σ H Q := q
theorem rd_ixL {K : PySem.W.Frag} {p : Addr} {xs : List V} (hs : SqL K H p xs) (hi : atI xs i = some v) (q : Q v H) : rIxL K (.ref p) (.int i) H Q := ⟨p, xs, i, v, rfl, rfl, hs, hi, q⟩
theorem rd_ixT {K : PySem.W.Frag} {p : Addr} {xs : List V} (hs : SqT K H p xs) (hi : atI xs i = some v) (q : Q v H) : rIxT K (.ref p) (.int i) H Q := ⟨p, xs, i, v, rfl, rfl, hs, hi, q⟩
theorem rd_sl {r : V → Option Int → Option Int → Hp → VK → Prop} {tl th : TO} (q : te σ H fun x H1 => tl σ H1 fun l H2 => th σ H2 fun u H3 => r x l u H3 Q) : tSl r te tl th σ H Q := q
theorem rd_no {QO : Option Int → Hp → Prop} (q : QO none H) : tNoPart σ H QO := q
theorem rd_slL {K : PySem.W.Frag} {p : Addr} {xs : List V} {lo hi : Option Int} (hs : SqL K H p xs) (q : ∀ n, H n = none → Q (.ref n) (upd H n (.lst (cutV xs lo hi)))) : rSlL K (.ref p) lo hi H Q := ⟨p, xs, rfl, hs, q⟩
theorem rd_for {wi : TI} {g : TG} {tb : TS} (q : wi σ H fun J H1 => ∃ W : Nat → Nat → L2.St → Hp → Prop, (∃ m, W 0 m σ H1) ∧ ∀ i m σ H, W i m σ H →
  (J.stop i H ∧ D.nx σ H) ∨ (J.go i H ∧ ∃ N : L2.St → Hp → Prop, (∀ σ' H', N σ' H' → ∃ m', m' < m ∧ W (i + 1) m' σ' H') ∧ ∀ x H', J.yld i H x H' → g x σ H' fun σ2 H2 => tb { D with nx := N, ct := N, bk := D.nx } σ2 H2)) : tFor wi g tb D σ H := q
theorem rd_lc {wi : TI} {g : TG} {tt : TT} {vs : List Nat} (q : wi σ H fun J H1 => ∀ D, H1 D = none → ∃ W : Nat → Nat → Hp → Prop, (∃ m, W 0 m (upd H1 D (.lst []))) ∧ ∀ i m H, W i m H →
  (J.stop i H ∧ Q (.ref D) H) ∨ (J.go i H ∧ ∃ Nx : Hp → Prop, (∀ H', Nx H' → ∃ m', m' < m ∧ W (i + 1) m' H') ∧ ∀ x H', J.yld i H x H' → g x (wipe σ vs) H' fun σ2 H2 => wipe σ2 vs = wipe σ vs ∧ tt σ2 H2 fun b H3 =>
    if b = true then te σ2 H3 fun y H4 => ∃ acc, H4 D = some (.lst acc) ∧ acc.length < sizeLine ∧ Nx (upd H4 D (.lst (acc ++ [y]))) else Nx H3)) : tLc wi g tt te vs σ H Q := q
theorem rd_tyes (q : QT true H) : tYes σ H QT := q
theorem rd_rng1 {R : It → Hp → Prop} (q : tr σ H fun vs H1 => ∃ j : Int, vs = [.int j] ∧ -(2 ^ 62) ≤ j ∧ j < 2 ^ 62 ∧ R (Itr 0 j.toNat) H1) : iRng1 tr σ H R := q
theorem rd_ni {K : PySem.W.Frag} {p : Addr} {xs : List V} (hT : H p = some (.tup xs)) (hx : flatV x = true) (hxs : xs.all flatV = true) (q : Q (.bl (!inV x xs)) H) : rIn K true x (.ref p) H Q := ⟨p, xs, rfl, .inr (SqT.of hT), hx, hxs, q⟩
theorem rd_set {p : Addr} {xs : List V} {n : Nat} {R' : Hp → Prop} (h : H p = some (.lst xs)) (hj : ixN xs.length i = some n) (q : R' (upd H p (.lst (xs.set n v)))) : rSetL (.ref p) (.int i) v H R' := ⟨p, xs, i, n, rfl, rfl, h, hj, q⟩
theorem rd_gsub {to ti : TE} {t : TSet} (q : to σ H fun o H1 => ti σ H1 fun i H2 => t o i v H2 fun H3 => R σ H3) : gSub to ti t v σ H R := q
theorem rd_lrg {te' : L2.St → Hp → (Int → Int → Hp → Prop) → Prop} (q : te' σ H fun a b H1 => RgOk a b ∧ ∀ q, H1 q = none → Q (.ref q) (upd H1 q (.lst (rgV a b)))) : tLstRg te' σ H Q := q
theorem rd_rg1 {QR : Int → Int → Hp → Prop} (q : te σ H fun x H1 => ∃ n, x = .int n ∧ QR 0 n H1) : tRg1 te σ H QR := q
theorem rgV_ints (n : Int) : rgV 0 n = ((List.range n.toNat).map fun k => ((k : Nat) : Int)).map V.int := by
  unfold rgV
  rw [List.map_map, Int.sub_zero]
  refine List.map_congr_left fun k _ => ?_
  show V.int (0 + (k : Int)) = V.int (k : Int)
  rw [Int.zero_add]
def rAddZ : R2 := fun x y H Q => ∃ i j, x = .str i ∧ y = .str j ∧ i.length + j.length ≤ sizeLine ∧ Q (.str (i ++ j)) H
theorem op_addZ {X : Cx} : OpR X (binaryOp .Add) rAddZ := op_add_str
theorem rd_addZ {a b : Str} (h : a.length + b.length ≤ 1000) (q : Q (.str (a ++ b)) H) : rAddZ (.str a) (.str b) H Q := ⟨a, b, rfl, rfl, Nat.le_of_lt (small1000 h), q⟩
theorem rd_slS {z : Str} {lo hi : Option Int} (h : z.length ≤ 1000) (q : Q (.str (cutS z lo hi)) H) : rSlS (.str z) lo hi H Q := ⟨z, rfl, Nat.le_of_lt (small1000 h), q⟩
theorem rd_ixZ {z : Str} {c : Nat} (h : z.length ≤ 1000) (hi : atI z.cps.toList i = some c) (q : Q (.str ⟨#[c]⟩) H) : rIxS (.str z) (.int i) H Q := ⟨z, i, c, rfl, rfl, Nat.le_of_lt (small1000 h), hi, q⟩
theorem rd_eqZ {a b : Str} (q : Q (.bl (decide (V.str a = V.str b))) H) : rEq (.str a) (.str b) H Q := ⟨rfl, q⟩
theorem rd_neZ {a b : Str} (q : Q (.bl (!decide (V.str a = V.str b))) H) : rNe (.str a) (.str b) H Q := ⟨rfl, q⟩
theorem rd_chain {r r' : R2} {tc : TE} (q : ta σ H fun x H1 => tb σ H1 fun y H2 => r x y H2 fun z H3 => ∃ k, z = .bl k ∧ (if k = true then tc σ H3 fun w' H4 => r' y w' H4 Q else Q (.bl false) H3)) : tChain r r' ta tb tc σ H Q := q
theorem rd_m1 {r : V → List V → Hp → VK → Prop} (q : ta σ H fun x H1 => (∃ a, x = .str a) ∧ te σ H1 fun y H2 => r x [y] H2 Q) : tM1 r ta te σ H Q := q
theorem rd_isZ {a : Str} {B : Prop} (q : B) : (∃ a', V.str a = .str a') ∧ B := ⟨⟨a, rfl⟩, q⟩
theorem rd_gtup {K : PySem.W.Frag} {tg : TGs} {n : Nat} {p : Addr} {xs : List V} (hT : H p = some (.tup xs)) (hn : xs.length = n) (q : tg xs σ H R) : gTup K n tg (.ref p) σ H R := ⟨p, xs, rfl, SqT.of hT, hn, q⟩
theorem rd_gcons {tg : TG} {tgs : TGs} {r : List V} (q : tg v σ H fun σ' H' => tgs r σ' H' R) : gCons tg tgs (v :: r) σ H R := ⟨v, r, rfl, q⟩
theorem rd_gnil (q : R σ H) : gNil [] σ H R := ⟨rfl, q⟩
theorem rd_is {tl : TE} {RI : It → Hp → Prop} (q : tl σ H fun v H1 => ∃ x, v = .str x ∧ RI (Its x) H1) : iStr tl σ H RI := q
theorem rd_isx {x : Str} {B : Str → Prop} (q : B x) : ∃ x', V.str x = .str x' ∧ B x' := ⟨x, rfl, q⟩
theorem rd_il {K : PySem.W.Frag} {tl : TE} {R : It → Hp → Prop} (q : tl σ H fun x H1 => ∃ a, x = .ref a ∧ (∃ xs, SqL K H1 a xs) ∧ R (Itl K a) H1) : iList K tl σ H R := q
theorem rd_part {QO : Option Int → Hp → Prop} (q : te σ H fun x H1 => ∃ i, x = .int i ∧ QO (some i) H1) : tPart te σ H QO := q
theorem rd_partI {QI : Int → Prop} (q : QI i) : ∃ i', V.int i = .int i' ∧ QI i' := ⟨i, rfl, q⟩
theorem rd_bm {K : PySem.W.Frag} {T : String} {r : V → List V → Hp → VK → Prop} (q : te σ H fun x H1 => tyV K T x H1 ∧ tr σ H1 fun xs H2 => r x xs H2 Q) : tBM K T r te tr σ H Q := q
theorem rd_bm0 {K : PySem.W.Frag} {T : String} {r : V → List V → Hp → VK → Prop} (q : te σ H fun x H1 => tyV K T x H1 ∧ r x [] H1 Q) : tBM0 K T r te σ H Q := q
theorem rd_tyL {K : PySem.W.Frag} {p : Addr} {xs : List V} {B : Prop} (hs : H p = some (.lst xs)) (q : B) : tyV K "list" (.ref p) H ∧ B := ⟨.inl ⟨rfl, _, SqL.of hs⟩, q⟩
theorem rd_app {p : Addr} {xs : List V} (hs : H p = some (.lst xs)) (hz : xs.length < 1000) (q : Q .non (upd H p (.lst (xs ++ [y])))) : rAppend (.ref p) [y] H Q := ⟨p, xs, y, rfl, rfl, hs, small1000 (Nat.le_of_lt hz), q⟩
theorem rd_cat {p r : Addr} {xs ys : List V} (hx : H p = some (.lst xs)) (hy : H r = some (.lst ys)) (hz : xs.length + ys.length ≤ 1000) (q : ∀ n, H n = none → Q (.ref n) (upd H n (.lst (xs ++ ys)))) : rCat (.ref p) (.ref r) H Q :=
  ⟨p, r, xs, ys, rfl, rfl, hx, hy, Nat.le_of_lt (small1000 hz), q⟩
theorem rd_max {K : PySem.W.Frag} {p : Addr} {ns : List Int} (hs : SqL K H p (ns.map V.int)) (h0 : 0 < ns.length) (q : ∀ m, m ∈ ns → (∀ y, y ∈ ns → y ≤ m) → Q (.int m) H) : rMax K [.ref p] H Q := ⟨p, ns, rfl, hs, h0, q⟩
theorem rd_minL {K : PySem.W.Frag} {p : Addr} {ns : List Int} (hs : SqL K H p (ns.map V.int)) (h0 : 0 < ns.length) (q : ∀ m, m ∈ ns → (∀ y, y ∈ ns → m ≤ y) → Q (.int m) H) : rMin K [.ref p] H Q := ⟨p, ns, rfl, hs, h0, q⟩
theorem rd_sum {K : PySem.W.Frag} {p : Addr} {ns : List Int} (hs : SqL K H p (ns.map V.int)) (q : Q (.int ns.sum) H) : rSum K [.ref p] H Q := ⟨p, ns, rfl, hs, q⟩
theorem rd_eqB {a b : Bool} (q : Q (.bl (decide (V.bl a = V.bl b))) H) : rEq (.bl a) (.bl b) H Q := ⟨rfl, q⟩
theorem rd_neB {a b : Bool} (q : Q (.bl (!decide (V.bl a = V.bl b))) H) : rNe (.bl a) (.bl b) H Q := ⟨rfl, q⟩
theorem rd_isB {a b : Bool} (q : Q (.bl (decide (a = b))) H) : rIsB (.bl a) (.bl b) H Q := ⟨a, b, rfl, rfl, q⟩
theorem rd_niB {a b : Bool} (q : Q (.bl (!decide (a = b))) H) : rNotB (.bl a) (.bl b) H Q := ⟨a, b, rfl, rfl, q⟩
/- tests whose answer is known -/
theorem rd_yes {p : Prop} [Decidable p] {A B : Prop} (hp : p) (h : A) : if decide p = true then A else B := by
  rw [if_pos (decide_eq_true hp)]
  exact h
theorem rd_nay {p : Prop} [Decidable p] {A B : Prop} (hp : ¬ p) (h : B) : if decide p = true then A else B := by
  rw [if_neg (by rw [decide_eq_false hp]; exact Bool.false_ne_true)]
  exact h
theorem rd_split {p : Prop} [Decidable p] {A B : Prop} (h1 : p → A) (h2 : ¬ p → B) : if decide p = true then A else B := by
  by_cases hp : p
  · exact rd_yes hp (h1 hp)
  · exact rd_nay hp (h2 hp)
theorem rd_splitN {p : Prop} [Decidable p] {A B : Prop} (h1 : ¬ p → A) (h2 : p → B) : if (!decide p) = true then A else B := by
  by_cases hp : p
  · rw [decide_eq_true hp]
    exact iteF (h2 hp)
  · rw [decide_eq_false hp]
    exact iteT (h1 hp)
theorem rd_nt {A B : Prop} (h : B) : if (!true) = true then A else B := iteF h
theorem rd_nf {A B : Prop} (h : A) : if (!false) = true then A else B := iteT h
theorem intEq : (V.int i = V.int j) = (i = j) := propext ⟨fun h => V.int.inj h, fun h => by rw [h]⟩
/- builtins by names of ours (the readings have a head then) -/
def rLenL (K : PySem.W.Frag) : List V → Hp → VK → Prop := fun xs H Q => ∃ p ys, xs = [.ref p] ∧ (SqL K H p ys ∨ SqT K H p ys) ∧ Q (.int ys.length) H
theorem call_lenL {X : Cx} : CallR X (.builtin "len") (rLenL X.K) := call_len_seq
theorem rd_len {K : PySem.W.Frag} {p : Addr} {ys : List V} (hs : SqL K H p ys) (q : Q (.int ys.length) H) : rLenL K [.ref p] H Q := ⟨p, ys, rfl, .inl hs, q⟩
theorem rd_lenT {K : PySem.W.Frag} {p : Addr} {ys : List V} (hs : SqT K H p ys) (q : Q (.int ys.length) H) : rLenL K [.ref p] H Q := ⟨p, ys, rfl, .inr hs, q⟩
def rLenZ : List V → Hp → VK → Prop := fun xs H Q => ∃ z, xs = [.str z] ∧ z.length ≤ sizeLine ∧ Q (.int z.length) H
theorem call_lenZ {X : Cx} : CallR X (.builtin "len") rLenZ := call_len_str
theorem rd_lenZ {z : Str} (h : z.length ≤ sizeLine) (q : Q (.int z.length) H) : rLenZ [.str z] H Q := ⟨z, rfl, h, q⟩
def rIntB : List V → Hp → VK → Prop := fun xs H Q => (∃ i, xs = [.int i] ∧ Q (.int i) H) ∨ ∃ k, xs = [.bl k] ∧ Q (.int (if k then 1 else 0)) H
theorem call_intB {X : Cx} : CallR X (.type "int") rIntB := call_int1
theorem rd_int (q : Q (.int (if k then 1 else 0)) H) : rIntB [.bl k] H Q := .inr ⟨k, rfl, q⟩
def rMin2 : List V → Hp → VK → Prop := fun xs H Q => ∃ i j, xs = [.int i, .int j] ∧ Q (.int (if j < i then j else i)) H
theorem call_minI {X : Cx} (hc : X.calm = true) : CallR X (.builtin "min") rMin2 := call_min2 hc
theorem rd_min (q : Q (.int (if j < i then j else i)) H) : rMin2 [.int i, .int j] H Q := ⟨i, j, rfl, q⟩
def rLst (K : PySem.W.Frag) : List V → Hp → VK → Prop := fun xs H Q => ∃ p ys, xs = [.ref p] ∧ (SqL K H p ys ∨ SqT K H p ys) ∧ ∀ l, H l = none → Q (.ref l) (upd H l (.lst ys))
theorem call_lstL {X : Cx} : CallR X (.type "list") (rLst X.K) := call_list_of
theorem rd_lstOf {K : PySem.W.Frag} {p : Addr} {ys : List V} (hs : SqL K H p ys) (q : ∀ l, H l = none → Q (.ref l) (upd H l (.lst ys))) : rLst K [.ref p] H Q := ⟨p, ys, rfl, .inl hs, q⟩
theorem rd_lstOfT {K : PySem.W.Frag} {p : Addr} {ys : List V} (hs : SqT K H p ys) (q : ∀ l, H l = none → Q (.ref l) (upd H l (.lst ys))) : rLst K [.ref p] H Q := ⟨p, ys, rfl, .inr hs, q⟩
/- isinstance -/
theorem rd_isi {K : PySem.W.Frag} {z w : V} {t' u' : Value} (ty : TyX K H z t') (kc : ClsV w u') (e : PySem.W.kitOne K t' u' = some k) (q : Q (.bl k) H) : rIsi K [z, w] H Q := ⟨z, w, t', u', k, rfl, kc, ty, e, q⟩
theorem rd_isiII {K : PySem.W.Frag} (q : Q (.bl true) H) : rIsi K [.int i, .ty "int"] H Q := rd_isi (.base (.int i)) (.ty _) (kit_ty (by decide +kernel)) q
theorem rd_isiIB {K : PySem.W.Frag} (q : Q (.bl false) H) : rIsi K [.int i, .ty "bool"] H Q := rd_isi (.base (.int i)) (.ty _) (kit_ty (by decide +kernel)) q
theorem rd_isiBB {K : PySem.W.Frag} (q : Q (.bl true) H) : rIsi K [.bl k, .ty "bool"] H Q := rd_isi (.base (.bl k)) (.ty _) (kit_ty (by decide +kernel)) q
theorem rd_isiL {K : PySem.W.Frag} {p : Addr} {ys : List V} (hs : H p = some (.lst ys)) (q : Q (.bl true) H) : rIsi K [.ref p, .ty "list"] H Q := rd_isi (.base (.lst hs)) (.ty _) (kit_ty (by decide +kernel)) q
theorem rd_isiT {K : PySem.W.Frag} {p : Addr} {ys : List V} (hs : H p = some (.tup ys)) (q : Q (.bl true) H) : rIsi K [.ref p, .ty "tuple"] H Q := rd_isi (.base (.tup hs)) (.ty _) (kit_ty (by decide +kernel)) q
theorem rd_isiS {K : PySem.W.Frag} {z : Str} (q : Q (.bl true) H) : rIsi K [.str z, .ty "str"] H Q := rd_isi (.base (.str z)) (.ty _) (kit_ty (by decide +kernel)) q
end
/-- a fact of a decided number at a literal list -/
theorem same_new {H : Hp} {p : Addr} {o : HO} (h : H p = none) : Same H (upd H p o) := fun b x e => by
  rw [upd_ne (ne_of_none e h)]
  exact e
theorem same_to {H H1 : Hp} {p : Addr} {o : HO} (a : Same H H1) (h : H1 p = none) : Same H (upd H1 p o) := a.trans (same_new h)
/-- one that H does not track may be written -/
theorem same_put {H H1 : Hp} {p : Addr} {o : HO} (a : Same H H1) (h : H p = none) : Same H (upd H1 p o) := fun b x e => by
  rw [upd_ne (ne_of_none e h)]
  exact a b x e
end Eb
namespace Eb
open PySem PySem.Spec PyProof.Rows L2
section
variable {H : Hp} {Q : VK} {K : PySem.W.Frag} {a D : Addr} {d : Option Addr} {b : Bool} {c : V} {cv : Value}
theorem rd_isH (st : Stood H a D d) (C : HeldC K D) (kc : ClsV c cv) (e : PySem.W.kitOne K (.ref D) cv = some b) (q : Q (.bl b) H) : rIsH K [.ref a, c] H Q := ⟨a, D, d, c, cv, b, rfl, st, C, kc, e, q⟩
theorem rd_isHT {tp : Addr} {cs : List V} {us : List Value} (st : Stood H a D d) (C : HeldC K D) (hT : H tp = some (.tup cs)) (kc : Paired ClsV cs us) (e : PySem.W.kitAny K (.ref D) us = some b) (q : Q (.bl b) H) : rIsHT K [.ref a, .ref tp] H Q :=
  ⟨a, D, tp, d, cs, us, b, rfl, st, C, hT, kc, e, q⟩
theorem stood_new (h : H a = none) : Stood (upd H a (ExH a (.ref D) none)) a D none := ⟨upd_same, fun _ z => nomatch z⟩
theorem Stood.to {p : Addr} {o : HO} (h : H p = none) (t : Stood H a D d) : Stood (upd H p o) a D d :=
  ⟨same_new h _ _ t.1, fun dd e => let ⟨fs, q⟩ := t.2 dd e; ⟨fs, same_new h _ _ q⟩⟩
end
end Eb
/-! more readings -/
namespace Eb
open PySem PySem.Spec PyProof.Rows L2
section
variable {σ : L2.St} {H : Hp} {Q : VK} {D : Ends} {v w x y : V} {ta te : TE} {tr : TA} {i j : Int}
theorem rd_aug {n : Nat} {ti : TIp} (h : σ[n]? = some (some x)) (q : te σ H fun y H1 => ti x y H1 fun z H2 => D.nx (σ.set n (some z)) H2) : tAug n te ti D σ H := ⟨x, h, q⟩
theorem rd_ipI {f : Int → Int → Int} (q : Q (.int (f i j)) H) : ipI f (.int i) (.int j) H Q := ⟨i, j, rfl, rfl, q⟩
theorem rd_par {n m : Nat} (q : tr σ H fun vs H1 => ∃ v w, vs = [v, w] ∧ D.nx ((σ.set n (some v)).set m (some w)) H1) : tPar n m tr D σ H := q
theorem rd_two {B : V → V → Prop} (q : B v w) : ∃ v' w', [v, w] = [v', w'] ∧ B v' w' := ⟨v, w, rfl, q⟩
theorem rd_izip {K : PySem.W.Frag} {R : It → Hp → Prop} (q : tr σ H fun vs H1 => ∃ a b xs ys, vs = [.ref a, .ref b] ∧ SqL K H1 a xs ∧ SqL K H1 b ys ∧ R (Itz K a b) H1) : iZip K tr σ H R := q
theorem rd_clear {p : Addr} {xs : List V} (h : H p = some (.lst xs)) (q : Q .non (upd H p (.lst []))) : rClear (.ref p) [] H Q := ⟨p, xs, rfl, rfl, h, q⟩
theorem rd_rep {p : Addr} {xs : List V} {k : Int} (h : H p = some (.lst xs)) (h0 : 0 ≤ k) (h1 : k ≤ 1000) (hl : xs.length * k.toNat ≤ 1000) (q : ∀ n, H n = none → Q (.ref n) (upd H n (.lst (List.replicate k.toNat xs).flatten))) : rRep (.ref p) (.int k) H Q :=
  ⟨p, k, xs, rfl, rfl, h, by omega, by omega, Nat.le_of_lt (small1000 hl), q⟩
theorem rd_index {K : PySem.W.Frag} {p : Addr} {ns : List Int} {m : Int} (hs : SqL K H p (ns.map V.int)) (hm : m ∈ ns) (q : Q (.int (ns.idxOf m : Nat)) H) : rIndex K (.ref p) [.int m] H Q := by
  have hlt : ns.idxOf m < ns.length := List.idxOf_lt_length_iff.mpr hm
  refine ⟨p, ns.map V.int, .int m, ns.idxOf m, .int m, rfl, rfl, hs, rfl, ?_, ?_, ?_, ?_, q⟩
  · rw [List.all_map]
    exact List.all_eq_true.mpr fun _ _ => rfl
  · rw [List.getElem?_map, List.getElem?_eq_getElem hlt, List.getElem_idxOf]
    rfl
  · show (m == m) = true
    exact beq_self_eq_true m
  · intro k z hk hz
    rw [List.getElem?_map, List.getElem?_eq_getElem (by omega)] at hz
    cases hz
    show (_ == m) = false
    have := List.not_of_lt_findIdx (p := (· == m)) (xs := ns) (i := k) hk
    simpa using this
theorem tab_succ (g : Nat → Int) (i : Nat) : (((List.range (i + 1)).map g).map V.int) = ((List.range i).map g).map V.int ++ [V.int (g i)] := by
  rw [List.range_succ, List.map_append, List.map_append]
  rfl
theorem tab_len (g : Nat → Int) (i : Nat) : (((List.range i).map g).map V.int).length = i := by
  rw [List.length_map, List.length_map, List.length_range]
theorem int_at {ns : List Int} {k : Nat} {z : Int} (h : ns[k]? = some z) : (ns.map V.int)[k]? = some (V.int z) := by
  rw [List.getElem?_map, h]
  rfl
theorem cut_to {ns : List Int} {k : Nat} : cutV (ns.map V.int) none (some (k : Int)) = (ns.take k).map V.int := by
  unfold cutV
  rw [HT.sIx_none, HT.sIx_nat, List.drop_zero, Nat.sub_zero, List.map_take, List.length_map]
  by_cases c : k ≤ ns.length
  · rw [Nat.min_eq_left c]
  · rw [Nat.min_eq_right (by omega), List.take_of_length_le (by rw [List.length_map]; exact Nat.le_refl _), List.take_of_length_le (by rw [List.length_map]; omega)]
theorem cut_from {ns : List Int} {k : Nat} : cutV (ns.map V.int) (some (k : Int)) none = (ns.drop k).map V.int := by
  unfold cutV
  rw [HT.sIx_none, HT.sIx_nat, List.map_drop, List.length_map]
  by_cases c : k ≤ ns.length
  · rw [Nat.min_eq_left c, List.take_of_length_le (by rw [List.length_drop, List.length_map]; exact Nat.le_refl _)]
  · rw [Nat.min_eq_right (by omega), List.drop_of_length_le (by rw [List.length_map]; exact Nat.le_refl _), List.drop_of_length_le (by rw [List.length_map]; omega), List.take_nil]
theorem cut_mid {ns : List Int} {a b : Nat} (h : a ≤ b) (hb : b ≤ ns.length) : cutV (ns.map V.int) (some (a : Int)) (some (b : Int)) = ((ns.drop a).take (b - a)).map V.int := by
  unfold cutV
  rw [HT.sIx_nat, HT.sIx_nat, List.length_map, Nat.min_eq_left (show a ≤ ns.length by omega), Nat.min_eq_left hb, List.map_take, List.map_drop]
end
/- rules whose reading names K alone (for what stands in a comprehension) -/
section
variable {X : Cx} {K : PySem.W.Frag}
theorem ixK (h : X.K = K) : IxR X (rIxL K) := by subst h; exact ix_list
theorem ixTK (h : X.K = K) : IxR X (rIxT K) := by subst h; exact ix_tup
theorem slK (h : X.K = K) : SlR X (rSlL K) := by subst h; exact sl_list
theorem sumK (h : X.K = K) (hc : X.calm = true) : CallR X (.builtin "sum") (rSum K) := by subst h; exact cr_sum hc
theorem lenK (h : X.K = K) : CallR X (.builtin "len") (rLenL K) := by subst h; exact call_lenL
theorem bt_sum : bootBuiltins "sum" = some (.builtin "sum") := by decide +kernel
end
section
variable {X : Cx} {σ : L2.St} {H : Hp} {Q : VK} {tr : TA} {D : Ends} {v : V} {p : Addr} {R : It → Hp → Prop}
def rIsN : R2 := fun x y H Q => y = .non ∧ Q (.bl (decide (x = .non))) H
def rNotN : R2 := fun x y H Q => y = .non ∧ Q (.bl (!decide (x = .non))) H
theorem opIsN : OpR X (compareOp .Is) rIsN := op_isN
theorem opNotN : OpR X (compareOp .IsNot) rNotN := op_notN
theorem rd_isNN (q : Q (.bl true) H) : rIsN .non .non H Q := ⟨rfl, q⟩
theorem rd_isNR (q : Q (.bl false) H) : rIsN (.ref p) .non H Q := ⟨rfl, q⟩
theorem rd_notNN (q : Q (.bl false) H) : rNotN .non .non H Q := ⟨rfl, q⟩
theorem rd_notNR (q : Q (.bl true) H) : rNotN (.ref p) .non H Q := ⟨rfl, q⟩
theorem rd_rng2 (q : tr σ H fun vs H1 => ∃ i j : Int, vs = [.int i, .int j] ∧ (-(2 ^ 62) ≤ i ∧ i < 2 ^ 62 ∧ -(2 ^ 62) ≤ j ∧ j < 2 ^ 62) ∧ R (Itr i (j - i).toNat) H1) : iRng2 tr σ H R := q
theorem rd_it {K : PySem.W.Frag} {tl : TE} (q : tl σ H fun x H1 => ∃ a, x = .ref a ∧ (∃ xs, SqT K H1 a xs) ∧ R (Itt K a) H1) : iTup K tl σ H R := q
end
/-- a statement of a block by what holds behind it -/
theorem rd_cut {t u : TS} {D : Ends} {σ : L2.St} {H : Hp} (P : L2.St → Hp → Prop) (h1 : ∀ U : L2.St → Hp → Prop, (∀ σ' H', P σ' H' → U σ' H') → t { D with nx := U } σ H) (h2 : ∀ σ' H', P σ' H' → u D σ' H') : tSeq t u D σ H := h1 (u D) h2
theorem ix_ok {n : Nat} {i : Int} (h0 : 0 ≤ i) (h1 : i < n) : ixN n i = some i.toNat := by
  unfold ixN
  rw [if_pos h0, if_pos (by omega)]
theorem cut_any (ns : List Int) (lo hi : Option Int) : ∃ ms : List Int, cutV (ns.map V.int) lo hi = ms.map V.int ∧ (∀ x ∈ ms, x ∈ ns) ∧ ms.length ≤ ns.length := by
  refine ⟨(ns.drop (HT.sIx ns.length 0 lo)).take (HT.sIx ns.length ns.length hi - HT.sIx ns.length 0 lo), ?_, fun x hx => List.mem_of_mem_drop (List.mem_of_mem_take hx), ?_⟩
  · unfold cutV
    rw [List.length_map, List.map_take, List.map_drop]
  · rw [List.length_take, List.length_drop]
    omega
theorem cut_len_from {ns ms : List Int} {k : Nat} {hi : Int} (h : cutV (ns.map V.int) (some (k : Int)) (some hi) = ms.map V.int) (h0 : 0 ≤ hi) : ms.length ≤ hi.toNat - k := by
  have := congrArg List.length h
  obtain ⟨j, rfl⟩ : ∃ j : Nat, hi = j := ⟨_, (Int.toNat_of_nonneg h0).symm⟩
  unfold cutV at this
  rw [HT.sIx_nat, HT.sIx_nat, List.length_take, List.length_drop, List.length_map, List.length_map] at this
  rw [Int.toNat_natCast]
  omega
end Eb
namespace Eb
open PySem PySem.Spec PyProof.Rows L2
local macro_rules | `(tactic| walk_at "rd") => `(tactic| (first
  | with_reducible refine rd_seq ?_ | with_reducible refine rd_asg ?_ | with_reducible refine rd_op ?_ | ((with_reducible refine' rd_var ?hrd ?_); (case hrd => rfl)) | with_reducible refine rd_c ?_
  | with_reducible refine rd_I0 ?_ | ((with_reducible refine rd_I (C := CDiv) ?hrd ?_); (case hrd => exact ⟨by decide, by decide⟩)) | ((with_reducible refine rd_I (C := fun _ j => 0 < j) ?hrd ?_); (case hrd => (first | omega | decide | assumption)))
  | ((with_reducible refine rd_I (C := CPow) ?hrd ?_); (case hrd => exact ⟨by decide, by decide, by decide⟩))
  | ((with_reducible refine rd_I (C := CMul) ?hrd ?_); (case hrd => (first | exact .inl ⟨by decide, by decide⟩ | exact .inr ⟨by decide, by decide⟩ | (unfold CMul; omega))))
  | with_reducible refine rd_U ?_ | with_reducible refine rd_un ?_ | with_reducible refine rd_eqI ?_ | with_reducible refine rd_neI ?_ | with_reducible refine rd_cons ?_ | with_reducible refine rd_nil ?_ | with_reducible refine rd_cb ?_
  | with_reducible refine rd_call ?_ | with_reducible refine rd_callS ?_ | with_reducible refine rd_test ?_ | with_reducible refine rd_tb ?_ | with_reducible refine rd_bl ?_ | with_reducible refine rd_and ?_ | with_reducible refine rd_or ?_
  | with_reducible refine rd_not ?_ | with_reducible refine rd_andV ?_ | with_reducible refine rd_orV ?_ | with_reducible refine rd_notV ?_ | with_reducible refine rd_ifE ?_ | with_reducible refine rd_gn ?_ | with_reducible refine rd_ret ?_
  | with_reducible refine rd_ifS ?_ | with_reducible refine rd_drop ?_ | with_reducible refine rd_next ?_ | with_reducible refine rd_tup ?_ | with_reducible refine rd_lst ?_ | with_reducible refine rd_sl ?_ | with_reducible refine rd_no ?_
  | ((with_reducible refine' rd_len ?hrd ?_); (case hrd => assumption)) | ((with_reducible refine' rd_lenT ?hrd ?_); (case hrd => assumption)) | with_reducible refine rd_int ?_ | with_reducible refine rd_min ?_ | with_reducible refine rd_isiII ?_ | with_reducible refine rd_isiIB ?_ | with_reducible refine rd_isiBB ?_ | with_reducible refine rd_isiS ?_ | ((with_reducible refine' rd_isiL ?hrd ?_); (case hrd => assumption)) | ((with_reducible refine' rd_isiT ?hrd ?_); (case hrd => assumption))
  | with_reducible refine rd_for ?_ | with_reducible refine rd_lc ?_ | with_reducible refine rd_tyes ?_ | with_reducible refine rd_rng1 ?_ | with_reducible refine rd_gsub ?_ | with_reducible refine rd_lrg ?_ | with_reducible refine rd_rg1 ?_ | with_reducible refine rd_eqZ ?_ | with_reducible refine rd_neZ ?_ | with_reducible refine rd_chain ?_ | with_reducible refine rd_m1 ?_ | with_reducible refine rd_isZ ?_ | ((with_reducible refine' rd_gtup ?hrd ?hrn ?_); (case hrd => assumption); (case hrn => rfl)) | with_reducible refine rd_gcons ?_ | with_reducible refine rd_gnil ?_ | with_reducible refine rd_is ?_ | with_reducible refine rd_isx ?_
  | with_reducible refine rd_il ?_ | with_reducible refine rd_part ?_ | with_reducible refine rd_partI ?_ | with_reducible refine rd_bm ?_ | with_reducible refine rd_bm0 ?_ | with_reducible refine rd_eqB ?_ | with_reducible refine rd_neB ?_ | with_reducible refine rd_isB ?_ | with_reducible refine rd_niB ?_
  | with_reducible refine rd_nt ?_ | with_reducible refine rd_nf ?_ | with_reducible refine iteT ?_ | with_reducible refine iteF ?_
  | ((with_reducible refine' rd_aug ?hrd ?_); (case hrd => rfl)) | with_reducible refine rd_ipI ?_ | with_reducible refine rd_par ?_ | with_reducible refine rd_two ?_ | with_reducible refine rd_izip ?_
  | with_reducible refine rd_isNN ?_ | with_reducible refine rd_isNR ?_ | with_reducible refine rd_notNN ?_ | with_reducible refine rd_notNR ?_ | with_reducible refine rd_rng2 ?_))
def topS (i : Nat) : Stmt := PySem.Challenge.pw_evenbeat_k04_turns_and_counts.main.body.getD i (.Pass ⟨0, 0, 0, 0⟩)
abbrev s_counts : Stmt := topS 1
abbrev N_counts : List Str := ["row", "width", "many", "told", "at"]
theorem sc_counts : FnScope N_counts ["row", "width"] (defScope s_counts) := ⟨rfl, rfl, rfl, by decide +kernel, rfl, by decide +kernel, by decide +kernel⟩
abbrev s_turned : Stmt := topS 2
abbrev N_turned : List Str := ["row", "by", "at"]
theorem sc_turned : FnScope N_turned ["row", "by"] (defScope s_turned) := ⟨rfl, rfl, rfl, by decide +kernel, rfl, by decide +kernel, by decide +kernel⟩
abbrev s_mirrored : Stmt := topS 3
abbrev N_mirrored : List Str := ["row"]
theorem sc_mirrored : FnScope N_mirrored ["row"] (defScope s_mirrored) := ⟨rfl, rfl, rfl, by decide +kernel, rfl, by decide +kernel, by decide +kernel⟩
abbrev s_swapped : Stmt := topS 4
abbrev N_swapped : List Str := ["row", "one"]
theorem sc_swapped : FnScope N_swapped ["row"] (defScope s_swapped) := ⟨rfl, rfl, rfl, by decide +kernel, rfl, by decide +kernel, by decide +kernel⟩
abbrev s_cell_at : Stmt := topS 6
abbrev N_cell_at : List Str := ["_law_script", "_law_k"]
theorem sc_cell_at : FnScope N_cell_at ["_law_script", "_law_k"] (defScope s_cell_at) := ⟨rfl, rfl, rfl, by decide +kernel, rfl, by decide +kernel, by decide +kernel⟩
abbrev s_row : Stmt := topS 7
abbrev N_row : List Str := ["_law_script", "_law_seed", "_law_row_here", "_law_k"]
theorem sc_row : FnScope N_row ["_law_script"] (defScope s_row) := ⟨rfl, rfl, rfl, by decide +kernel, rfl, by decide +kernel, by decide +kernel⟩
abbrev s_by : Stmt := topS 8
abbrev N_by : List Str := ["_law_script", "_law_many", "_law_way", "_law_by_here"]
theorem sc_by : FnScope N_by ["_law_script", "_law_many"] (defScope s_by) := ⟨rfl, rfl, rfl, by decide +kernel, rfl, by decide +kernel, by decide +kernel⟩
abbrev s_alike : Stmt := topS 9
abbrev N_alike : List Str := ["_law_found", "_law_due", "_law_one", "_law_other"]
theorem sc_alike : FnScope N_alike ["_law_found", "_law_due"] (defScope s_alike) := ⟨rfl, rfl, rfl, by decide +kernel, rfl, by decide +kernel, by decide +kernel⟩
abbrev s_law : Stmt := topS 10
abbrev N_law : List Str := ["_law_script", "_law_row_here", "_law_many", "_law_width", "_law_by_here", "_law_round_about", "_law_handed", "_law_told", "_law_dues", "_law_found", "_law_due", "_law_at"]
theorem sc_law : FnScope N_law ["_law_script"] (defScope s_law) := ⟨rfl, rfl, rfl, by decide +kernel, rfl, by decide +kernel, by decide +kernel⟩
structure Txt (K : PySem.W.Frag) (mg : Str → Option Value) where
  f_counts : Addr
  fd_counts : FuncData
  F_counts : Fun K "counts" "counts" s_counts f_counts fd_counts
  k_counts : PySem.W.keepIn K (.ref f_counts) = true
  g_counts : mg "counts" = some (.ref f_counts)
  b_counts : Binds K fd_counts ["row", "width"] []
  f_turned : Addr
  fd_turned : FuncData
  F_turned : FunD K "turned" "turned" (defArgs s_turned) (defBody s_turned) (defScope s_turned) [V.int 1] [] f_turned fd_turned
  k_turned : PySem.W.keepIn K (.ref f_turned) = true
  ds_turned : List Value
  bd_turned : Binds K fd_turned ["row", "by"] ds_turned
  vd_turned : Vals [V.int 1] ds_turned
  g_turned : mg "turned" = some (.ref f_turned)
  b_turned : Binds K fd_turned ["row", "by"] []
  f_mirrored : Addr
  fd_mirrored : FuncData
  F_mirrored : Fun K "mirrored" "mirrored" s_mirrored f_mirrored fd_mirrored
  k_mirrored : PySem.W.keepIn K (.ref f_mirrored) = true
  g_mirrored : mg "mirrored" = some (.ref f_mirrored)
  b_mirrored : Binds K fd_mirrored ["row"] []
  f_swapped : Addr
  fd_swapped : FuncData
  F_swapped : Fun K "swapped" "swapped" s_swapped f_swapped fd_swapped
  k_swapped : PySem.W.keepIn K (.ref f_swapped) = true
  g_swapped : mg "swapped" = some (.ref f_swapped)
  b_swapped : Binds K fd_swapped ["row"] []
  f_cell_at : Addr
  fd_cell_at : FuncData
  F_cell_at : Fun K "_law_cell_at" "_law_cell_at" s_cell_at f_cell_at fd_cell_at
  k_cell_at : PySem.W.keepIn K (.ref f_cell_at) = true
  g_cell_at : mg "_law_cell_at" = some (.ref f_cell_at)
  b_cell_at : Binds K fd_cell_at ["_law_script", "_law_k"] []
  f_row : Addr
  fd_row : FuncData
  F_row : Fun K "_law_row" "_law_row" s_row f_row fd_row
  k_row : PySem.W.keepIn K (.ref f_row) = true
  g_row : mg "_law_row" = some (.ref f_row)
  b_row : Binds K fd_row ["_law_script"] []
  f_by : Addr
  fd_by : FuncData
  F_by : Fun K "_law_by" "_law_by" s_by f_by fd_by
  k_by : PySem.W.keepIn K (.ref f_by) = true
  g_by : mg "_law_by" = some (.ref f_by)
  b_by : Binds K fd_by ["_law_script", "_law_many"] []
  f_alike : Addr
  fd_alike : FuncData
  F_alike : Fun K "_law_alike" "_law_alike" s_alike f_alike fd_alike
  k_alike : PySem.W.keepIn K (.ref f_alike) = true
  g_alike : mg "_law_alike" = some (.ref f_alike)
  b_alike : Binds K fd_alike ["_law_found", "_law_due"] []
  m_range : mg "range" = none
  m_len : mg "len" = none
  m_sum : mg "sum" = none
  m_list : mg "list" = none
  m_reversed : mg "reversed" = none
  m_zip : mg "zip" = none
  m_isinstance : mg "isinstance" = none
  m_bool : mg "bool" = none
  m_int : mg "int" = none
/-! sums of the first ones -/
def pre (l : List Int) (k : Nat) : Int := (l.take k).sum
theorem pre_zero (l : List Int) : pre l 0 = 0 := rfl
theorem pre_succ {l : List Int} {k : Nat} {z : Int} (h : l[k]? = some z) : pre l (k + 1) = pre l k + z := sum_take h
theorem pre_all (l : List Int) : pre l l.length = l.sum := by
  unfold pre
  rw [List.take_of_length_le (Nat.le_refl _)]
def headsTo (l : List Int) (i : Nat) : List Int := (List.range (i + 1)).map (pre l)
theorem headsTo_zero (l : List Int) : headsTo l 0 = [0] := rfl
theorem headsTo_succ (l : List Int) (i : Nat) : headsTo l (i + 1) = headsTo l i ++ [pre l (i + 1)] := by
  unfold headsTo
  rw [List.range_succ, List.map_append]
  rfl
theorem headsTo_last (l : List Int) (i : Nat) : ∃ r, headsTo l i = r ++ [pre l i] := by
  unfold headsTo
  rw [List.range_succ, List.map_append]
  exact ⟨_, rfl⟩
theorem headsTo_len (l : List Int) (i : Nat) : (headsTo l i).length = i + 1 := by
  unfold headsTo
  rw [List.length_map, List.length_range]
theorem headsTo_at (l : List Int) {i k : Nat} (h : k ≤ i) : (headsTo l i)[k]? = some (pre l k) := by
  unfold headsTo
  rw [List.getElem?_map, List.getElem?_range (by omega)]
  rfl
/-- of twice a row: the i-th item -/
theorem twice_at {l : List Int} {k : Nat} (h : k < l.length + l.length) : (l ++ l)[k]? = l[k % l.length]? := by
  by_cases c : k < l.length
  · rw [List.getElem?_append_left c, Nat.mod_eq_of_lt c]
  · rw [List.getElem?_append_right (by omega), Nat.mod_eq_sub_mod (by omega), Nat.mod_eq_of_lt (by omega)]
/-! rows told as even by the swing of their sums: at k the sum times the length less k times the whole sum -/
theorem pre_app_le {l m : List Int} {k : Nat} (h : k ≤ l.length) : pre (l ++ m) k = pre l k := by
  unfold pre
  rw [List.take_append_of_le_length h]
theorem pre_app_add (l m : List Int) (j : Nat) : pre (l ++ m) (l.length + j) = l.sum + pre m j := by
  unfold pre
  rw [List.take_length_add_append, List.sum_append_int]
theorem pre_add (l : List Int) (t k : Nat) : pre l (t + k) = pre l t + pre (l.drop t) k := by
  unfold pre
  rw [List.take_add, List.sum_append_int]
theorem pre_take {l : List Int} {n k : Nat} (h : k ≤ n) : pre (l.take n) k = pre l k := by
  unfold pre
  rw [List.take_take, Nat.min_eq_left h]
def Bits (l : List Int) : Prop := ∀ x ∈ l, x = 0 ∨ x = 1
theorem pre_step {l : List Int} (hb : Bits l) {k : Nat} (h : k < l.length) : pre l (k + 1) = pre l k ∨ pre l (k + 1) = pre l k + 1 := by
  rw [pre_succ (List.getElem?_eq_getElem h)]
  rcases hb _ (List.getElem_mem h) with e | e
  · rw [e]
    exact .inl (Int.add_zero _)
  · rw [e]
    exact .inr rfl
theorem bits_twice {l : List Int} (hb : Bits l) : Bits (l ++ l) := fun x hx => (List.mem_append.mp hx).elim (hb x) (hb x)
/-- the strokes of the stretch of a width -/
def cnt (l : List Int) (w a : Nat) : Int := pre (l ++ l) (a + w) - pre (l ++ l) a
def swing (l : List Int) (k : Nat) : Int := (l.length : Int) * pre (l ++ l) k - l.sum * k
def Flat (l : List Int) : Prop := ∀ a b, a ≤ l.length → b ≤ l.length → swing l a - swing l b < l.length
def Bal (l : List Int) (w : Nat) : Prop := ∀ a b, a < l.length → b < l.length → cnt l w a - cnt l w b ≤ 1
theorem twice_round (l : List Int) {j : Nat} (h : j ≤ l.length) : pre (l ++ l) (l.length + j) = l.sum + pre (l ++ l) j := by
  rw [pre_app_add, pre_app_le h]
theorem swing_round (l : List Int) {j : Nat} (h : j ≤ l.length) : swing l (l.length + j) = swing l j := by
  unfold swing
  rw [twice_round l h, Int.mul_add, Int.natCast_add, Int.mul_add, Int.mul_comm l.sum (l.length : Int)]
  omega
theorem swing_all (l : List Int) : swing l l.length = swing l 0 := swing_round l (Nat.zero_le _)
theorem swing_zero (l : List Int) : swing l 0 = 0 := by
  unfold swing
  rw [pre_zero, Int.mul_zero, Int.natCast_zero, Int.mul_zero]
  rfl
theorem cnt_swing (l : List Int) (w a : Nat) : (l.length : Int) * cnt l w a - l.sum * w = swing l (a + w) - swing l a := by
  unfold swing cnt
  rw [Int.mul_sub, Int.natCast_add, Int.mul_add]
  omega
theorem cnt_zero (l : List Int) (a : Nat) : cnt l 0 a = 0 := Int.sub_self _
/-- a flat row at any two places of twice it -/
theorem flat_any {l : List Int} (hf : Flat l) {a b : Nat} (ha : a ≤ l.length + l.length) (hb : b ≤ l.length + l.length) : swing l a - swing l b < l.length := by
  have red : ∀ c, c ≤ l.length + l.length → ∃ d, d ≤ l.length ∧ swing l c = swing l d := fun c hc => by
    by_cases h : c ≤ l.length
    · exact ⟨c, h, rfl⟩
    · refine ⟨c - l.length, by omega, ?_⟩
      have := swing_round l (j := c - l.length) (by omega)
      rw [show l.length + (c - l.length) = c by omega] at this
      exact this
  obtain ⟨d, hd, e⟩ := red a ha
  obtain ⟨g, hg, f⟩ := red b hb
  rw [e, f]
  exact hf d g hd hg
/-- .. its stretches have strokes times width over places, rounded down or up -/
theorem flat_in {l : List Int} (hf : Flat l) (hn : 0 < l.length) {w a : Nat} (h : a + w ≤ l.length + l.length) :
    l.sum * w / l.length ≤ cnt l w a ∧ cnt l w a ≤ (l.sum * w + l.length - 1) / l.length := by
  have h1 := flat_any hf (a := a + w) (b := a) h (by omega)
  have h2 := flat_any hf (a := a) (b := a + w) (by omega) h
  have e := cnt_swing l w a
  have n0 : (0 : Int) < l.length := by omega
  have ec : (cnt l w a + 1) * (l.length : Int) = (l.length : Int) * cnt l w a + l.length := by rw [Int.add_mul, Int.one_mul, Int.mul_comm]
  have ec2 : cnt l w a * (l.length : Int) = (l.length : Int) * cnt l w a := Int.mul_comm _ _
  constructor
  · have := (Int.ediv_lt_iff_lt_mul n0 (a := l.sum * w) (b := cnt l w a + 1)).mpr (by omega)
    omega
  · exact (Int.le_ediv_iff_mul_le n0).mpr (by omega)
theorem flat_bal {l : List Int} (hf : Flat l) {w : Nat} (hw : w ≤ l.length) : Bal l w := fun a b ha hb => by
  have n0 : (0 : Int) < l.length := by omega
  have a1 := flat_any hf (a := a + w) (b := a) (by omega) (by omega)
  have b1 := flat_any hf (a := b) (b := b + w) (by omega) (by omega)
  have ea := cnt_swing l w a
  have eb := cnt_swing l w b
  by_cases c : cnt l w a - cnt l w b ≤ 1
  · exact c
  · exfalso
    have := Int.mul_le_mul_of_nonneg_left (show cnt l w b + 2 ≤ cnt l w a by omega) (show (0 : Int) ≤ l.length by omega)
    rw [Int.mul_add] at this
    omega
/-! balanced rows are flat -/
def total : Nat → (Nat → Int) → Int
  | 0, _ => 0
  | n + 1, g => total n g + g n
theorem total_shift (n : Nat) (g : Nat → Int) : total n (fun a => g (a + 1)) = total n g + g n - g 0 := by
  induction n with
  | zero => show (0 : Int) = 0 + g 0 - g 0; omega
  | succ n ih =>
    show total n (fun a => g (a + 1)) + g (n + 1) = total n g + g n + g (n + 1) - g 0
    rw [ih]
    omega
theorem total_sub (n : Nat) (g h : Nat → Int) : total n (fun a => g a - h a) = total n g - total n h := by
  induction n with
  | zero => rfl
  | succ n ih =>
    show total n (fun a => g a - h a) + (g n - h n) = total n g + g n - (total n h + h n)
    rw [ih]
    omega
theorem total_heads (l : List Int) : ∀ w : Nat, w ≤ l.length → total l.length (fun a => pre (l ++ l) (a + w)) = total l.length (pre (l ++ l)) + w * l.sum
  | 0, _ => by
    rw [Int.natCast_zero, Int.zero_mul, Int.add_zero]
    rfl
  | w + 1, h => by
    have ih := total_heads l w (by omega)
    have s := total_shift l.length (fun a => pre (l ++ l) (a + w))
    have e : (fun a => pre (l ++ l) (a + (w + 1))) = fun a => (fun a => pre (l ++ l) (a + w)) (a + 1) := funext fun a => by
      show _ = pre (l ++ l) (a + 1 + w)
      rw [show a + 1 + w = a + (w + 1) by omega]
    rw [e, s, ih]
    show _ + pre (l ++ l) (l.length + w) - pre (l ++ l) (0 + w) = _
    rw [twice_round l (by omega), Nat.zero_add, Int.natCast_add, Int.natCast_one, Int.add_mul, Int.one_mul]
    omega
theorem total_cnt (l : List Int) {w : Nat} (h : w ≤ l.length) : total l.length (cnt l w) = w * l.sum := by
  have e : cnt l w = fun a => (fun a => pre (l ++ l) (a + w)) a - pre (l ++ l) a := rfl
  rw [e, total_sub, total_heads l w h]
  omega
theorem total_le (n : Nat) (g : Nat → Int) (M : Int) (h : ∀ a, a < n → g a ≤ M) : total n g ≤ n * M := by
  induction n with
  | zero => rw [Int.natCast_zero, Int.zero_mul]; exact Int.le_refl _
  | succ n ih =>
    have := ih fun a ha => h a (by omega)
    have := h n (by omega)
    rw [Int.natCast_add, Int.natCast_one, Int.add_mul, Int.one_mul]
    show total n g + g n ≤ _
    omega
theorem total_lt (n : Nat) (g : Nat → Int) (M : Int) (h : ∀ a, a < n → g a ≤ M) (b : Nat) (hb : b < n) (k : g b < M) : total n g < n * M := by
  induction n with
  | zero => omega
  | succ n ih =>
    rw [Int.natCast_add, Int.natCast_one, Int.add_mul, Int.one_mul]
    show total n g + g n < _
    by_cases c : b = n
    · rw [c] at k
      have := total_le n g M fun a ha => h a (by omega)
      omega
    · have := ih (fun a ha => h a (by omega)) (by omega)
      have := h n (by omega)
      omega
theorem bal_flat {l : List Int} (hn : 0 < l.length) (hb : ∀ w, w ≤ l.length → Bal l w) : Flat l := by
  have key : ∀ a w, a < l.length → w ≤ l.length → ¬ (l.length : Int) * cnt l w a - l.sum * w ≤ -(l.length : Int) := fun a w ha hw z => by
    have t := total_lt l.length (cnt l w) (cnt l w a + 1) (fun c hc => by have := hb w hw c a hc ha; omega) a ha (by omega)
    rw [total_cnt l hw, Int.mul_add, Int.mul_one, Int.mul_comm (w : Int)] at t
    omega
  have red : ∀ c, c ≤ l.length → ∃ d, d < l.length ∧ swing l c = swing l d := fun c hc => by
    by_cases h : c < l.length
    · exact ⟨c, h, rfl⟩
    · refine ⟨0, hn, ?_⟩
      rw [show c = l.length by omega, swing_all]
  intro a b ha hb'
  obtain ⟨d, hd, e⟩ := red a ha
  obtain ⟨g, hg, f⟩ := red b hb'
  rw [e, f]
  by_cases c : swing l d - swing l g < l.length
  · exact c
  · exfalso
    by_cases o : d ≤ g
    · have := cnt_swing l (g - d) d
      rw [show d + (g - d) = g by omega] at this
      exact key d (g - d) hd (by omega) (by omega)
    · have := cnt_swing l (l.length + g - d) d
      rw [show d + (l.length + g - d) = l.length + g by omega, swing_round l (by omega)] at this
      exact key d (l.length + g - d) hd (by omega) (by omega)
/-- what a stretch leaves over -/
theorem cnt_rest (l : List Int) {w a : Nat} (hw : w ≤ l.length) (ha : a < l.length) : ∃ c, c < l.length ∧ cnt l (l.length - w) a = l.sum - cnt l w c := by
  unfold cnt
  by_cases h : a < w
  · refine ⟨a + (l.length - w), by omega, ?_⟩
    rw [show a + (l.length - w) + w = l.length + a by omega, twice_round l (by omega)]
    omega
  · refine ⟨a - w, by omega, ?_⟩
    have := twice_round l (j := a - w) (by omega)
    rw [show l.length + (a - w) = a + (l.length - w) by omega] at this
    rw [this, show a - w + w = a by omega]
    omega
theorem bal_rest {l : List Int} {w : Nat} (hw : w ≤ l.length) (h : Bal l w) : Bal l (l.length - w) := fun a b ha hb => by
  obtain ⟨c, hc, e⟩ := cnt_rest l hw ha
  obtain ⟨d, hd, f⟩ := cnt_rest l hw hb
  have := h d c hd hc
  omega
theorem bal_zero (l : List Int) : Bal l 0 := fun a b _ _ => by
  rw [cnt_zero, cnt_zero]
  decide
theorem cnt_succ {l : List Int} (hb : Bits l) {w a : Nat} (h : a + w < l.length + l.length) : cnt l (w + 1) a = cnt l w a ∨ cnt l (w + 1) a = cnt l w a + 1 := by
  unfold cnt
  have := pre_step (bits_twice hb) (k := a + w) (by rw [List.length_append]; exact h)
  rw [show a + (w + 1) = a + w + 1 from rfl]
  omega
theorem bal_one {l : List Int} (hb : Bits l) : Bal l 1 := fun a b ha hb' => by
  have e1 := cnt_succ hb (w := 0) (a := a) (by omega)
  have e2 := cnt_succ hb (w := 0) (a := b) (by omega)
  rw [cnt_zero] at e1 e2
  show cnt l (0 + 1) a - cnt l (0 + 1) b ≤ 1
  omega
theorem bal_all {l : List Int} (hb : Bits l) (h : ∀ w, 2 ≤ w → w ≤ l.length / 2 → Bal l w) : ∀ w, w ≤ l.length → Bal l w := by
  have half : ∀ w, w ≤ l.length / 2 → Bal l w := fun w hw => by
    by_cases c : 2 ≤ w
    · exact h w c hw
    · rcases (show w = 0 ∨ w = 1 by omega) with e | e
      · rw [e]
        exact bal_zero l
      · rw [e]
        exact bal_one hb
  intro w hw
  by_cases c : w ≤ l.length / 2
  · exact half w c
  · by_cases c1 : l.length - w ≤ l.length / 2
    · have := bal_rest (w := l.length - w) (by omega) (half _ c1)
      rw [show l.length - (l.length - w) = w by omega] at this
      exact this
    · omega
/-! a flat row, read from a place on, is the laid row -/
def roll (l : List Int) (t : Nat) : List Int := l.drop t ++ l.take t
theorem roll_len {l : List Int} {t : Nat} (h : t ≤ l.length) : (roll l t).length = l.length := by
  unfold roll
  rw [List.length_append, List.length_drop, List.length_take]
  omega
theorem roll_is {l : List Int} {t : Nat} (h : t ≤ l.length) : roll l t = ((l ++ l).drop t).take l.length := by
  unfold roll
  rw [List.drop_append_of_le_length h, List.take_append, List.length_drop, List.take_of_length_le (l := l.drop t) (by rw [List.length_drop]; omega), show l.length - (l.length - t) = t by omega]
theorem roll_at {l : List Int} {t i : Nat} (h : t ≤ l.length) (hi : i < l.length) : (roll l t)[i]? = (l ++ l)[t + i]? := by
  rw [roll_is h, List.getElem?_take_of_lt hi, List.getElem?_drop]
theorem pre_roll {l : List Int} {t k : Nat} (h : t ≤ l.length) (hk : k ≤ l.length) : pre (roll l t) k = pre (l ++ l) (t + k) - pre (l ++ l) t := by
  rw [roll_is h, pre_take hk, pre_add]
  omega
theorem top_of (g : Nat → Int) : ∀ n : Nat, 0 < n → ∃ t, t < n ∧ ∀ a, a < n → g a ≤ g t
  | 0, h => absurd h (Nat.lt_irrefl 0)
  | 1, _ => ⟨0, by decide, fun a ha => by rw [show a = 0 by omega]; exact Int.le_refl _⟩
  | n + 2, _ => by
    obtain ⟨t, ht, q⟩ := top_of g (n + 1) (by omega)
    by_cases c : g t ≤ g (n + 1)
    · refine ⟨n + 1, by omega, fun a ha => ?_⟩
      by_cases e : a = n + 1
      · rw [e]
        exact Int.le_refl _
      · exact Int.le_trans (q a (by omega)) c
    · refine ⟨t, by omega, fun a ha => ?_⟩
      by_cases e : a = n + 1
      · rw [e]
        omega
      · exact q a (by omega)
theorem ext_pre {l m : List Int} (hl : l.length = m.length) (h : ∀ k, k ≤ l.length → pre l k = pre m k) : l = m := by
  refine List.ext_getElem hl fun i h1 h2 => ?_
  have e1 := h i (by omega)
  have e2 := h (i + 1) (by omega)
  rw [pre_succ (List.getElem?_eq_getElem h1), pre_succ (List.getElem?_eq_getElem h2), e1] at e2
  omega
theorem flat_rolls {l : List Int} (hn : 0 < l.length) (hf : Flat l) : ∃ t, t < l.length ∧ ∀ k, k ≤ l.length → pre (roll l t) k = l.sum * k / l.length := by
  obtain ⟨t, ht, q⟩ := top_of (swing l) l.length hn
  refine ⟨t, ht, fun k hk => ?_⟩
  have n0 : (0 : Int) < l.length := by omega
  have h1 := flat_any hf (a := t) (b := t + k) (by omega) (by omega)
  have h2 : swing l (t + k) ≤ swing l t := by
    by_cases c : t + k < l.length
    · exact q _ c
    · have := swing_round l (j := t + k - l.length) (by omega)
      rw [show l.length + (t + k - l.length) = t + k by omega] at this
      rw [this]
      by_cases c2 : t + k - l.length < l.length
      · exact q _ c2
      · omega
  have e := cnt_swing l k t
  rw [pre_roll (by omega) hk]
  show cnt l k t = _
  have ec : (cnt l k t + 1) * (l.length : Int) = (l.length : Int) * cnt l k t + l.length := by rw [Int.add_mul, Int.one_mul, Int.mul_comm]
  have ec2 : cnt l k t * (l.length : Int) = (l.length : Int) * cnt l k t := Int.mul_comm _ _
  have u1 := (Int.ediv_lt_iff_lt_mul n0 (a := l.sum * k) (b := cnt l k t + 1)).mpr (by omega)
  have u2 : cnt l k t ≤ l.sum * k / l.length := (Int.le_ediv_iff_mul_le n0).mpr (by omega)
  omega
def swap (l : List Int) : List Int := l.map fun x => 1 - x
theorem swap_len (l : List Int) : (swap l).length = l.length := List.length_map _
section
variable {P : Program} {w : World} {K : PySem.W.Frag} {mg : Str → Option Value} {base : Heap}
def cell (ns : List Int) (k : Nat) : Int := ns.getD k 0
def sp_cell_at (K : PySem.W.Frag) : Sp := fun vs H Q _ => ∃ (a : Addr) (ns : List Int) (k : Nat), vs = [.ref a, .int k] ∧ SqL K H a (ns.map V.int) ∧ Q (.int (cell ns k)) H
theorem ok_cell_at (T : Txt K mg) : FnOk P w K mg base CX0 1 T.f_cell_at T.fd_cell_at ["_law_script", "_law_k"] (sp_cell_at K) := by
  refine T.F_cell_at.ok sc_cell_at (fun vs H Q E h => ?_) (fun cdv A outer s H vs Q E hr h => ?_)
  · obtain ⟨a, ns, k, rfl, _⟩ := h
    rfl
  · obtain ⟨a, ns, k, rfl, hS, q⟩ := h
    refine ⟨_, (pss_cons (ps_if (pt_cmpR op_lt (pv 1) (pe_callB call_lenL (by rfl) T.m_len PySem.boot_len (pa_cons (pv 0) pa_nil)) (nomark _))
      (pss_one (ps_ret (pe_ix ix_list (pv 0) (pv 1) (fun _ _ => rfl))))
      pss_nil)
    (pss_one (ps_ret pe_int))), ?_⟩
    repeat walk_at "rd"
    rw [List.length_map]
    refine rd_split (fun c => ?_) fun c => ?_
    · have hk : k < ns.length := by omega
      repeat walk_at "rd"
      refine rd_ixL hS (atI_nat (j := k) (by rw [List.getElem?_map, List.getElem?_eq_getElem hk]; rfl)) ?_
      have e : cell ns k = ns[k] := by
        unfold cell
        rw [List.getD_eq_getElem?_getD, List.getElem?_eq_getElem hk]
        rfl
      rw [e] at q
      exact q
    · have hk : ns.length ≤ k := by omega
      have e : cell ns k = 0 := by
        unfold cell
        rw [List.getD_eq_getElem?_getD, List.getElem?_eq_none hk]
        rfl
      rw [e] at q
      repeat walk_at "rd"
      exact q
/-- two lists of the same ints -/
def sp_alike : Sp := fun vs H Q _ => ∃ (f d : Addr) (ns : List Int), vs = [.ref f, .ref d] ∧ H f = some (.lst (ns.map V.int)) ∧ H d = some (.lst (ns.map V.int)) ∧ ∀ H', Same H H' → Q (.bl true) H'
theorem ok_alike (T : Txt K mg) : FnOk P w K mg base CX0 1 T.f_alike T.fd_alike ["_law_found", "_law_due"] sp_alike := by
  refine T.F_alike.ok sc_alike (fun vs H Q E h => ?_) (fun cdv A outer s H vs Q E hr h => ?_)
  · obtain ⟨f, d, ns, rfl, _⟩ := h
    rfl
  · obtain ⟨f, d, ns, rfl, ef, ed, q⟩ := h
    refine ⟨_, (pss_cons (ps_if (PW.pt (pw_or (pt_not (pt_val (pe_callB call_isi (by rfl) T.m_isinstance (by decide +kernel) (pa_cons (pv 0) (pa_cons (pe_bltn (v := .ty "list") (by rfl) T.m_list (by decide +kernel) rfl) pa_nil))))) (pw_or1 (pt_cmpR op_ne (pe_callB call_lenL (by rfl) T.m_len PySem.boot_len (pa_cons (pv 0) pa_nil)) (pe_callB call_lenL (by rfl) T.m_len PySem.boot_len (pa_cons (pv 1) pa_nil)) (nomark _)))))
      (pss_one (ps_ret pe_bl))
      pss_nil)
    (pss_cons (ps_for PassesOwn.never rfl (pi_zip (by rfl) T.m_zip (pa_cons (pv 0) (pa_cons (pv 1) pa_nil))) (pg_tup rfl (pgs_cons (pg_name (i := 2) sc_alike.nd rfl (Or.inl rfl)) (pgs_cons (pg_name (i := 3) sc_alike.nd rfl (Or.inl rfl)) pgs_nil)))
      (pss_one (ps_if (PW.pt (pw_or (pt_not (pt_val (pe_callB call_isi (by rfl) T.m_isinstance (by decide +kernel) (pa_cons (pv 2) (pa_cons (pe_bltn (v := .ty "int") (by rfl) T.m_int (by decide +kernel) rfl) pa_nil))))) (pw_or (pt_val (pe_callB call_isi (by rfl) T.m_isinstance (by decide +kernel) (pa_cons (pv 2) (pa_cons (pe_bltn (v := .ty "bool") (by rfl) T.m_bool (by decide +kernel) rfl) pa_nil)))) (pw_or1 (pt_cmpR op_ne (pv 2) (pv 3) (nomark _))))))
        (pss_one (ps_ret pe_bl))
        pss_nil)))
    (pss_one (ps_ret pe_bl)))), ?_⟩
    have hf : SqL K H f (ns.map V.int) := SqL.of ef
    have hd : SqL K H d (ns.map V.int) := SqL.of ed
    repeat walk_at "rd"
    refine rd_splitN (fun c => absurd rfl c) fun _ => ?_
    repeat walk_at "rd"
    refine ⟨f, d, _, _, rfl, hf, hd, RZ.for_zipL (xs := ns.map V.int) (ys := ns.map V.int) rfl (fun i σ H' => (∃ x2 x3, σ = [some (.ref f), some (.ref d), x2, x3]) ∧ Same H H') ⟨⟨_, _, rfl⟩, Same.refl H⟩ (fun i σ H' h' => ⟨h'.2.seq hf, h'.2.seq hd⟩) ?_ ?_⟩
    · rintro i x y t σ H' hx hy ⟨⟨x2, x3, rfl⟩, sm⟩ nt
      rw [hx] at hy
      cases hy
      obtain ⟨z, hz, rfl⟩ : ∃ z, z ∈ ns ∧ x = V.int z := by
        obtain ⟨z, m, e⟩ := List.mem_map.mp (List.mem_of_getElem? hx)
        exact ⟨z, m, e.symm⟩
      have st := same_to (o := .tup [.int z, .int z]) sm nt
      have et : upd H' t (.tup [.int z, .int z]) t = some (.tup [.int z, .int z]) := upd_same
      generalize upd H' t (.tup [.int z, .int z]) = H2 at st et ⊢
      repeat walk_at "rd"
      skip
      refine rd_splitN (fun c => absurd rfl c) fun _ => ?_
      repeat walk_at "rd"
      exact ⟨⟨_, _, rfl⟩, st⟩
    · rintro σ H' ⟨⟨x2, x3, rfl⟩, sm⟩
      repeat walk_at "rd"
      exact q H' sm
def cntsOf (ns : List Int) (w : Nat) : List Int := (List.range ns.length).map (cnt ns w)
theorem cnts_len (ns : List Int) (w : Nat) : (cntsOf ns w).length = ns.length := by
  unfold cntsOf
  rw [List.length_map, List.length_range]
def sp_counts : Sp := fun vs H Q _ => ∃ (r : Addr) (ns : List Int) (w : Nat), vs = [.ref r, .int w] ∧ H r = some (.lst (ns.map V.int)) ∧ w ≤ ns.length ∧ ns.length ≤ 120 ∧ ∀ H' d, Same H H' → H d = none → H' d = some (.lst ((cntsOf ns w).map V.int)) → Q (.ref d) H'
theorem ok_counts (T : Txt K mg) : FnOk P w K mg base CX0 1 T.f_counts T.fd_counts ["row", "width"] sp_counts := by
  refine T.F_counts.ok sc_counts (fun vs H Q E h => ?_) (fun cdv A outer s H vs Q E hr h => ?_)
  · obtain ⟨r, ns, w, rfl, _⟩ := h
    rfl
  · obtain ⟨r, ns, w, rfl, er, hw, hl, q⟩ := h
    refine ⟨_, (pss_cons (ps_set (i := 2) sc_counts.nd rfl (Or.inl rfl) (pe_callB (cr_sum rfl) (by rfl) T.m_sum (by decide +kernel) (pa_cons (pe_slice sl_list (pv 0) po_none (po_some (pv 1))) pa_nil)))
    (pss_cons (ps_set (i := 3) sc_counts.nd rfl (Or.inl rfl) (pe_lst pa_nil))
    (pss_cons (ps_for PassesOwn.never rfl (pi_range1 (by rfl) T.m_range (pa_cons (pe_callB call_lenL (by rfl) T.m_len PySem.boot_len (pa_cons (pv 0) pa_nil)) pa_nil)) (pg_name (i := 4) sc_counts.nd rfl (Or.inl rfl))
      (pss_cons (ps_expr (pe_bm PySem.F.plainAttrs_list PySem.F.slot_list_append PySem.F.type_list_append mt_append (pv 3) (pa_cons (pv 2) pa_nil)))
      (pss_one (ps_aug (i := 2) sc_counts.nd rfl (Or.inl rfl) (pe_op op_sub (pe_ix ix_list (pv 0) (pe_op op_mod (pe_op op_add (pv 4) (pv 1)) (pe_callB call_lenL (by rfl) T.m_len PySem.boot_len (pa_cons (pv 0) pa_nil))) (fun _ _ => rfl)) (pe_ix ix_list (pv 0) (pv 4) (fun _ _ => rfl))) ip_add))))
    (pss_one (ps_ret (pv 3)))))), ?_⟩
    repeat walk_at "rd"
    refine rd_slL (SqL.of er) fun c nc => ?_
    rw [cut_to]
    have er1 := same_new (o := .lst ((ns.take w).map V.int)) nc _ _ er
    have s1 := same_new (o := .lst ((ns.take w).map V.int)) nc
    have ec : upd H c (.lst ((ns.take w).map V.int)) c = some (.lst ((ns.take w).map V.int)) := upd_same
    generalize upd H c (.lst ((ns.take w).map V.int)) = H1 at er1 s1 ec ⊢
    repeat walk_at "rd"
    refine rd_sum (SqL.of ec) ?_
    have e0 : (ns.take w).sum = cnt ns w 0 := by
      show pre ns w = pre (ns ++ ns) (0 + w) - pre (ns ++ ns) 0
      rw [Nat.zero_add, pre_zero, pre_app_le hw]
      omega
    rw [e0]
    repeat walk_at "rd"
    refine ⟨Nat.zero_le _, fun d nd => ?_⟩
    have ndH : H d = none := s1.free nd
    have er2 := same_new (o := .lst []) nd _ _ er1
    have s2 := same_to (o := .lst []) s1 nd
    have hS : SqL K (upd H1 d (.lst [])) r (ns.map V.int) := SqL.of er2
    have ed : upd H1 d (.lst []) d = some (.lst []) := upd_same
    generalize upd H1 d (.lst []) = H2 at s2 hS ed ⊢
    repeat walk_at "rd"
    refine ⟨(ns.length : Int), by rw [List.length_map], by omega, by omega, ?_⟩
    rw [Int.toNat_natCast]
    refine for_range (lo := 0) (n := ns.length) (fun i σ H' => (∃ x4, σ = [some (.ref r), some (.int w), some (.int (cnt ns w i)), some (.ref d), x4]) ∧ Same H H' ∧ H' d = some (.lst (((List.range i).map (cnt ns w)).map V.int))) ⟨⟨_, rfl⟩, s2, ed⟩ ?_ ?_
    · rintro i σ H' hi ⟨⟨x4, rfl⟩, sm, ed⟩
      repeat walk_at "rd"
      refine rd_tyL ed ?_
      repeat walk_at "rd"
      refine rd_app ed (by rw [tab_len]; omega) ?_
      have sm2 := same_put (o := .lst (((List.range i).map (cnt ns w)).map V.int ++ [.int (cnt ns w i)])) sm ndH
      have ed2 : upd H' d (.lst (((List.range i).map (cnt ns w)).map V.int ++ [.int (cnt ns w i)])) d = some (.lst (((List.range (i + 1)).map (cnt ns w)).map V.int)) := by
        rw [upd_same, tab_succ]
      generalize upd H' d (.lst (((List.range i).map (cnt ns w)).map V.int ++ [.int (cnt ns w i)])) = H3 at sm2 ed2 ⊢
      have hS3 : SqL K H3 r (ns.map V.int) := SqL.of (sm2 _ _ er)
      have hm : (i + w) % ns.length < ns.length := Nat.mod_lt _ (by omega)
      repeat walk_at "rd"
      refine rd_I (C := fun _ j => 0 < j) (by rw [List.length_map]; omega) ?_
      repeat walk_at "rd"
      refine rd_ixL hS3 (at_of (j := (i + w) % ns.length) (v := .int ns[(i + w) % ns.length]) (by rw [List.length_map, Int.zero_add, Int.natCast_emod, Int.natCast_add]) (int_at (List.getElem?_eq_getElem hm))) ?_
      repeat walk_at "rd"
      refine rd_ixL hS3 (at_of (j := i) (v := .int ns[i]) (by rw [Int.zero_add]) (int_at (List.getElem?_eq_getElem hi))) ?_
      repeat walk_at "rd"
      refine ⟨⟨some (V.int (0 + (i : Int))), ?_⟩, sm2, ed2⟩
      have e : cnt ns w i + (ns[(i + w) % ns.length] - ns[i]) = cnt ns w (i + 1) := by
        have t1 : (ns ++ ns)[i + w]? = some ns[(i + w) % ns.length] := by rw [twice_at (by omega), List.getElem?_eq_getElem hm]
        have t2 : (ns ++ ns)[i]? = some ns[i] := by rw [List.getElem?_append_left hi, List.getElem?_eq_getElem hi]
        unfold cnt
        rw [show i + 1 + w = i + w + 1 by omega, pre_succ t1, pre_succ t2]
        omega
      show _ = ([_, _, some (V.int (cnt ns w (i + 1))), _, _] : L2.St)
      rw [← e]
      rfl
    · rintro σ H' ⟨⟨x4, rfl⟩, sm, ed⟩
      repeat walk_at "rd"
      exact q H' d sm ndH ed
def sp_turned : Sp := fun vs H Q _ => ∃ (r : Addr) (ns : List Int) (b : Int), vs = [.ref r, .int b] ∧ H r = some (.lst (ns.map V.int)) ∧ 1 ≤ ns.length ∧ ns.length ≤ 120 ∧ ∀ H' d, Same H H' → H d = none → H' d = some (.lst ((roll ns (b % ns.length).toNat).map V.int)) → Q (.ref d) H'
theorem ok_turned (T : Txt K mg) : FnOk P w K mg base CX0 1 T.f_turned T.fd_turned ["row", "by"] sp_turned := by
  refine T.F_turned.ok sc_turned (fun vs H Q E h => ?_) (fun cdv A outer s H vs Q E hr h => ?_)
  · obtain ⟨r, ns, b, rfl, _⟩ := h
    rfl
  · obtain ⟨r, ns, b, rfl, er, hn, hl, q⟩ := h
    refine ⟨_, (pss_cons (ps_set (i := 2) sc_turned.nd rfl (Or.inl rfl) (pe_op op_mod (pv 1) (pe_callB call_lenL (by rfl) T.m_len PySem.boot_len (pa_cons (pv 0) pa_nil))))
    (pss_one (ps_ret (pe_op op_cat (pe_slice sl_list (pv 0) (po_some (pv 2)) po_none) (pe_slice sl_list (pv 0) po_none (po_some (pv 2))))))), ?_⟩
    have hS : SqL K H r (ns.map V.int) := SqL.of er
    repeat walk_at "rd"
    refine rd_I (C := fun _ j => 0 < j) (by rw [List.length_map]; omega) ?_
    have h0 := Int.emod_nonneg b (show (ns.length : Int) ≠ 0 by omega)
    have h1 := Int.emod_lt_of_pos b (show (0 : Int) < ns.length by omega)
    obtain ⟨t, ht⟩ : ∃ t : Nat, b % (ns.length : Int) = t := ⟨_, (Int.toNat_of_nonneg h0).symm⟩
    rw [List.length_map, ht]
    rw [ht, Int.toNat_natCast] at q
    repeat walk_at "rd"
    refine rd_slL hS fun c nc => ?_
    rw [cut_from]
    have s1 := same_new (o := .lst ((ns.drop t).map V.int)) nc
    have ec : upd H c (.lst ((ns.drop t).map V.int)) c = some (.lst ((ns.drop t).map V.int)) := upd_same
    generalize upd H c (.lst ((ns.drop t).map V.int)) = H1 at s1 ec ⊢
    repeat walk_at "rd"
    refine rd_slL (s1.seq hS) fun e ne => ?_
    rw [cut_to]
    have s2 := same_to (o := .lst ((ns.take t).map V.int)) s1 ne
    have ec2 := same_new (o := .lst ((ns.take t).map V.int)) ne _ _ ec
    have ee : upd H1 e (.lst ((ns.take t).map V.int)) e = some (.lst ((ns.take t).map V.int)) := upd_same
    generalize upd H1 e (.lst ((ns.take t).map V.int)) = H2 at s2 ec2 ee ⊢
    refine rd_cat ec2 ee (by rw [List.length_map, List.length_map, List.length_drop, List.length_take]; omega) fun d nd => ?_
    refine q _ d (same_to s2 nd) (s2.free nd) ?_
    rw [upd_same, ← List.map_append]
    rfl
def sp_mirrored : Sp := fun vs H Q _ => ∃ (r : Addr) (ns : List Int), vs = [.ref r] ∧ H r = some (.lst (ns.map V.int)) ∧ ∀ H' d, Same H H' → H d = none → H' d = some (.lst (ns.reverse.map V.int)) → Q (.ref d) H'
theorem ok_mirrored (T : Txt K mg) : FnOk P w K mg base CX0 1 T.f_mirrored T.fd_mirrored ["row"] sp_mirrored := by
  refine T.F_mirrored.ok sc_mirrored (fun vs H Q E h => ?_) (fun cdv A outer s H vs Q E hr h => ?_)
  · obtain ⟨r, ns, rfl, _⟩ := h
    rfl
  · obtain ⟨r, ns, rfl, er, q⟩ := h
    refine ⟨_, (pss_one (ps_ret (pe_listRev rfl (by rfl) T.m_list (by rfl) T.m_reversed (pv 0)))), ?_⟩
    repeat walk_at "rd"
    refine rd_lrev ?_
    repeat walk_at "rd"
    refine ⟨r, _, rfl, SqL.of er, fun d nd => ?_⟩
    exact q _ d (same_new nd) nd (by rw [upd_same, List.map_reverse])
def sp_swapped : Sp := fun vs H Q _ => ∃ (r : Addr) (ns : List Int), vs = [.ref r] ∧ H r = some (.lst (ns.map V.int)) ∧ ns.length ≤ 120 ∧ ∀ H' d, Same H H' → H d = none → H' d = some (.lst ((swap ns).map V.int)) → Q (.ref d) H'
theorem ok_swapped (T : Txt K mg) : FnOk P w K mg base CX0 1 T.f_swapped T.fd_swapped ["row"] sp_swapped := by
  refine T.F_swapped.ok sc_swapped (fun vs H Q E h => ?_) (fun cdv A outer s H vs Q E hr h => ?_)
  · obtain ⟨r, ns, rfl, _⟩ := h
    rfl
  · obtain ⟨r, ns, rfl, er, hl, q⟩ := h
    refine ⟨_, (pss_one (ps_ret (pe_lc (own := [("one", 1)]) (g := gName 1) (tt := tYes) rfl sc_swapped.nd (pi_list (pv 0)) (blkOk_by (N := N_swapped) (sc := defScope s_swapped) (by decide +kernel)) (fun _ _ _ _ _ => pg_name (i := 1) sc_swapped.nd rfl (Or.inl rfl)) (fun _ _ _ _ _ => pts_nil) (fun _ _ _ _ _ => (pe_op op_sub pe_int (pv 1)))))), ?_⟩
    repeat walk_at "rd"
    refine ⟨r, rfl, ⟨_, SqL.of er⟩, fun D nD => lc_list (xs := ns.map V.int) (fun i H' => Same H H' ∧ H' D = some (.lst ((swap (ns.take i)).map V.int))) ⟨same_new nD, upd_same⟩ (fun i H' _ h' => h'.1.seq (SqL.of er)) ?_ ?_⟩
    · rintro i y H' hi ⟨sm, eD⟩
      rw [List.getElem?_map] at hi
      cases gi : ns[i]? with
      | none =>
        rw [gi] at hi
        cases hi
      | some z =>
        rw [gi] at hi
        cases hi
        refine ⟨rfl, ?_⟩
        repeat walk_at "rd"
        refine ⟨_, eD, small1000 (by rw [List.length_map, swap_len, List.length_take]; omega), same_put sm nD, ?_⟩
        rw [upd_same, List.take_add_one, gi]
        unfold swap
        rw [List.map_append, List.map_append]
        rfl
    · rintro H' ⟨sm, eD⟩
      refine q H' D sm nD ?_
      rw [eD, List.length_map, List.take_of_length_le (Nat.le_refl _)]
def sp_row (K : PySem.W.Frag) : Sp := fun vs H Q _ => ∃ (a : Addr) (ns : List Int), vs = [.ref a] ∧ SqL K H a (ns.map V.int) ∧ ns.length ≤ 63 ∧ ∀ H' r (bs : List Int), Same H H' → H r = none → H' r = some (.lst (bs.map V.int)) → 1 ≤ bs.length → bs.length ≤ 120 → Q (.ref r) H'
theorem ok_row (T : Txt K mg) : FnOk P w K mg base CX0 2 T.f_row T.fd_row ["_law_script"] (sp_row K) := by
  refine T.F_row.ok sc_row (fun vs H Q E h => ?_) (fun cdv A outer s H vs Q E hr h => ?_)
  · obtain ⟨a, ns, rfl, _⟩ := h
    rfl
  · obtain ⟨a, ns, rfl, hS, hlen, q⟩ := h
    refine ⟨_, (pss_cons (ps_set (i := 1) sc_row.nd rfl (Or.inl rfl) (pe_op op_mod (pe_call (ok_cell_at T) hr (by rfl) T.g_cell_at T.k_cell_at T.b_cell_at .nil pass0 (pa_cons (pv 0) (pa_cons pe_int pa_nil))) pe_int))
    (pss_cons (ps_set (i := 2) sc_row.nd rfl (Or.inl rfl) (pe_lst pa_nil))
    (pss_cons (ps_for PassesOwn.never rfl (pi_range1 (by rfl) T.m_range (pa_cons (pe_op op_add pe_int (pe_op op_mod (pe_call (ok_cell_at T) hr (by rfl) T.g_cell_at T.k_cell_at T.b_cell_at .nil pass0 (pa_cons (pv 0) (pa_cons pe_int pa_nil))) pe_int)) pa_nil)) (pg_name (i := 3) sc_row.nd rfl (Or.inl rfl))
      (pss_cons (ps_set (i := 1) sc_row.nd rfl (Or.inl rfl) (pe_op op_mod (pe_op op_add (pe_op op_add (pe_op op_add (pe_op op_mul (pv 1) (pv 1)) (pe_op op_mul pe_int (pv 1))) pe_int) (pv 3)) pe_int))
      (pss_one (ps_if (pt_cmpR op_lt (pe_op op_add (pv 3) pe_int) (pe_callB call_lenL (by rfl) T.m_len PySem.boot_len (pa_cons (pv 0) pa_nil)) (nomark _))
        (pss_one (ps_expr (pe_bm PySem.F.plainAttrs_list PySem.F.slot_list_append PySem.F.type_list_append mt_append (pv 2) (pa_cons (pe_op op_mod (pe_ix ix_list (pv 0) (pe_op op_add (pv 3) pe_int) (fun _ _ => rfl)) pe_int) pa_nil))))
        (pss_one (ps_expr (pe_bm PySem.F.plainAttrs_list PySem.F.slot_list_append PySem.F.type_list_append mt_append (pv 2) (pa_cons (pe_op op_mod (pe_op op_fdiv (pv 1) pe_int) pe_int) pa_nil))))))))
    (pss_one (ps_ret (pv 2)))))), ?_⟩
    repeat walk_at "rd"
    refine ⟨a, ns, 0, rfl, hS, ?_⟩
    repeat walk_at "rd"
    have g0 := Int.emod_nonneg (cell ns 0) (show (2147483629 : Int) ≠ 0 by decide)
    have g1 := Int.emod_lt_of_pos (cell ns 0) (show (0 : Int) < 2147483629 by decide)
    generalize cell ns 0 % 2147483629 = sd at g0 g1 ⊢
    refine ⟨Nat.zero_le _, fun d nd => ?_⟩
    have s1 := same_new (o := .lst []) nd
    have ed : upd H d (.lst []) d = some (.lst (([] : List Int).map V.int)) := upd_same
    generalize upd H d (.lst []) = H1 at s1 ed ⊢
    repeat walk_at "rd"
    refine ⟨a, ns, 0, rfl, s1.seq hS, ?_⟩
    have n0 := Int.emod_nonneg (cell ns 0) (show (120 : Int) ≠ 0 by decide)
    have n1 := Int.emod_lt_of_pos (cell ns 0) (show (0 : Int) < 120 by decide)
    repeat walk_at "rd"
    generalize cell ns 0 % 120 = nn at n0 n1 ⊢
    refine ⟨1 + nn, rfl, by omega, by omega, for_range (lo := 0) (n := (1 + nn).toNat) (fun i σ H' => ∃ (sd : Int) (bs : List Int) (x3 : Option V), σ = [some (.ref a), some (.int sd), some (.ref d), x3] ∧ 0 ≤ sd ∧ sd < 2147483629 ∧ Same H H' ∧ H' d = some (.lst (bs.map V.int)) ∧ bs.length = i)
      ⟨sd, [], _, rfl, g0, g1, s1, ed, rfl⟩ ?_ ?_⟩
    · rintro i σ H' hi ⟨sd, bs, x3, rfl, b0, b1, sm, ed, lb⟩
      repeat walk_at "rd"
      have b2 := Int.emod_nonneg (sd * sd + 48271 * sd + 11 + (0 + (i : Int))) (show (2147483629 : Int) ≠ 0 by decide)
      have b3 := Int.emod_lt_of_pos (sd * sd + 48271 * sd + 11 + (0 + (i : Int))) (show (0 : Int) < 2147483629 by decide)
      generalize (sd * sd + 48271 * sd + 11 + (0 + (i : Int))) % 2147483629 = s2 at b2 b3 ⊢
      have hS2 : SqL K H' a (ns.map V.int) := sm.seq hS
      repeat walk_at "rd"
      rw [List.length_map]
      have go : ∀ b : Int, H' d = some (.lst (bs.map V.int)) ∧ (bs.map V.int).length < 1000 ∧ (∃ (sd : Int) (bs' : List Int) (x3' : Option V), ([some (.ref a), some (.int s2), some (.ref d), some (.int (0 + (i : Int)))] : L2.St) = [some (.ref a), some (.int sd), some (.ref d), x3'] ∧ 0 ≤ sd ∧ sd < 2147483629 ∧ Same H (upd H' d (.lst (bs.map V.int ++ [.int b]))) ∧ upd H' d (.lst (bs.map V.int ++ [.int b])) d = some (.lst (bs'.map V.int)) ∧ bs'.length = i + 1) := fun b =>
        ⟨ed, by rw [List.length_map]; omega, s2, bs ++ [b], _, rfl, b2, b3, same_put sm nd, by rw [upd_same, List.map_append]; rfl, by rw [List.length_append, lb]; rfl⟩
      refine rd_split (fun c => ?_) fun c => ?_
      · repeat walk_at "rd"
        refine rd_tyL ed ?_
        have hk : i + 1 < ns.length := by omega
        repeat walk_at "rd"
        refine rd_ixL hS2 (at_of (j := i + 1) (v := .int ns[i + 1]) (by omega) (int_at (List.getElem?_eq_getElem hk))) ?_
        repeat walk_at "rd"
        obtain ⟨e1, e2, e3⟩ := go (ns[i + 1] % 2)
        refine rd_app e1 e2 ?_
        repeat walk_at "rd"
        exact e3
      · repeat walk_at "rd"
        refine rd_tyL ed ?_
        repeat walk_at "rd"
        obtain ⟨e1, e2, e3⟩ := go (s2 / 4096 % 2)
        refine rd_app e1 e2 ?_
        repeat walk_at "rd"
        exact e3
    · rintro σ H' ⟨sd, bs, x3, rfl, b0, b1, sm, ed, lb⟩
      repeat walk_at "rd"
      exact q H' d bs sm nd ed (by omega) (by omega)
def sp_by (K : PySem.W.Frag) : Sp := fun vs H Q _ => ∃ (a : Addr) (ns : List Int) (m : Nat), vs = [.ref a, .int m] ∧ SqL K H a (ns.map V.int) ∧ ∀ b : Int, Q (.int b) H
theorem ok_by (T : Txt K mg) : FnOk P w K mg base CX0 2 T.f_by T.fd_by ["_law_script", "_law_many"] (sp_by K) := by
  refine T.F_by.ok sc_by (fun vs H Q E h => ?_) (fun cdv A outer s H vs Q E hr h => ?_)
  · obtain ⟨a, ns, m, rfl, _⟩ := h
    rfl
  · obtain ⟨a, ns, m, rfl, hS, q⟩ := h
    refine ⟨_, (pss_cons (ps_set (i := 2) sc_by.nd rfl (Or.inl rfl) (pe_op op_mod (pe_op op_fdiv (pe_call (ok_cell_at T) hr (by rfl) T.g_cell_at T.k_cell_at T.b_cell_at .nil pass0 (pa_cons (pv 0) (pa_cons pe_int pa_nil))) pe_int) pe_int))
    (pss_cons (ps_set (i := 3) sc_by.nd rfl (Or.inl rfl) (pe_op op_fdiv (pe_call (ok_cell_at T) hr (by rfl) T.g_cell_at T.k_cell_at T.b_cell_at .nil pass0 (pa_cons (pv 0) (pa_cons pe_int pa_nil))) pe_int))
    (pss_cons (ps_if (pt_cmpR op_eq (pv 2) pe_int (nomark _))
      (pss_one (ps_ret pe_int))
      pss_nil)
    (pss_cons (ps_if (pt_cmpR op_lt (pv 2) pe_int (nomark _))
      (pss_one (ps_ret (pe_op op_sub (pe_op op_mod (pv 3) (pe_op op_add (pe_op op_mul pe_int (pv 1)) pe_int)) (pe_op op_mul pe_int (pv 1)))))
      pss_nil)
    (pss_one (ps_ret (pe_op op_sub (pe_op op_mod (pv 3) (pe_op op_add (pe_op op_mul pe_int (pe_op op_pow pe_int pe_int)) pe_int)) (pe_op op_pow pe_int pe_int)))))))), ?_⟩
    repeat walk_at "rd"
    refine ⟨a, ns, 2, rfl, hS, ?_⟩
    repeat walk_at "rd"
    refine ⟨a, ns, 3, rfl, hS, ?_⟩
    repeat walk_at "rd"
    refine rd_split (fun c => ?_) fun c => ?_
    · repeat walk_at "rd"
      exact q _
    repeat walk_at "rd"
    refine rd_split (fun c1 => ?_) fun c1 => ?_
    · repeat walk_at "rd"
      exact q _
    · repeat walk_at "rd"
      exact q _
theorem twice_cut {ns : List Int} {a w : Nat} (h : a + w ≤ ns.length + ns.length) : (((ns ++ ns).drop a).take w).sum = cnt ns w a := by
  unfold cnt
  rw [pre_add]
  show pre ((ns ++ ns).drop a) w = _
  omega
/-! ### the law -/
theorem roll_el {ns : List Int} {b : Int} {i : Nat} (hn : 1 ≤ ns.length) (hi : i < ns.length) {z : Int} (h : (roll ns (b % ns.length).toNat)[i]? = some z) : atI (ns.map V.int) ((0 + (i : Int) + b) % ((ns.length : Nat) : Int)) = some (.int z) := by
  have h0 := Int.emod_nonneg b (show (ns.length : Int) ≠ 0 by omega)
  have h1 := Int.emod_lt_of_pos b (show (0 : Int) < ns.length by omega)
  obtain ⟨t, ht⟩ : ∃ t : Nat, b % (ns.length : Int) = t := ⟨_, (Int.toNat_of_nonneg h0).symm⟩
  rw [ht, Int.toNat_natCast, roll_at (by omega) hi, twice_at (by omega)] at h
  refine at_of (j := (t + i) % ns.length) ?_ (int_at h)
  rw [Int.natCast_emod, Int.natCast_add, ← ht, Int.emod_add_emod, show 0 + (i : Int) + b = b + i by omega]
theorem lc_done {g : Nat → Int} {H H' : Hp} {D : Addr} {i : Nat} {y : Int} (nD : H D = none) (sm : Same H H') (eD : H' D = some (.lst (((List.range i).map g).map V.int))) (hi : i < 120) (hy : y = g i) :
    ∃ acc, H' D = some (.lst acc) ∧ acc.length < sizeLine ∧ (Same H (upd H' D (.lst (acc ++ [.int y]))) ∧ upd H' D (.lst (acc ++ [.int y])) D = some (.lst (((List.range (i + 1)).map g).map V.int))) :=
  ⟨_, eD, small1000 (by rw [tab_len]; omega), same_put sm nD, by rw [upd_same, tab_succ, hy]⟩
theorem tab_of {g : Nat → Int} {l : List Int} {n : Nat} (hl : l.length = n) (h : ∀ i, i < n → l[i]? = some (g i)) : (List.range n).map g = l := by
  refine List.ext_getElem? fun i => ?_
  by_cases c : i < n
  · rw [List.getElem?_map, List.getElem?_range c, h i c]
    rfl
  · rw [List.getElem?_eq_none (by rw [List.length_map, List.length_range]; omega), List.getElem?_eq_none (by omega)]
def nth (l : List Int) (i : Nat) : Int := l.getD i 0
theorem nth_at {l : List Int} {i : Nat} (h : i < l.length) : l[i]? = some (nth l i) := by
  unfold nth
  rw [List.getD_eq_getElem?_getD, List.getElem?_eq_getElem h]
  rfl
theorem tab_nth (l : List Int) : (List.range l.length).map (nth l) = l := tab_of rfl fun i h => nth_at h
theorem el_rev {bs : List Int} {i : Nat} (h : i < bs.length) : atI (bs.map V.int) ((bs.length : Int) - 1 - (0 + (i : Int))) = some (.int (nth bs.reverse i)) := by
  refine at_of (j := bs.length - 1 - i) (by omega) (int_at ?_)
  rw [← List.getElem?_reverse h]
  exact nth_at (by rw [List.length_reverse]; exact h)
theorem el_swap {bs : List Int} {i : Nat} (h : i < bs.length) : 1 - nth bs i = nth (swap bs) i := by
  have a := nth_at h
  have b := nth_at (l := swap bs) (i := i) (by rw [swap_len]; exact h)
  unfold swap at b
  rw [List.getElem?_map, a] at b
  unfold swap
  exact Option.some.inj b
theorem tab_len_of {l : List Int} {n : Nat} (h : l.length = n) : (List.range n).map (nth l) = l := by
  subst h
  exact tab_nth l
def sp_law (K : PySem.W.Frag) : Sp := fun vs H Q _ => ∃ (a : Addr) (ns : List Int), vs = [.ref a] ∧ SqL K H a (ns.map V.int) ∧ ns.length ≤ 63 ∧ ∀ H', Q (.bl true) H'
theorem ok_law (T : Txt K mg) {fa : Addr} {fda : FuncData} (FL : Fun K "law" "law" s_law fa fda) : FnOk P w K mg base CX0 3 fa fda ["_law_script"] (sp_law K) := by
  refine FL.ok sc_law (fun vs H Q E h => ?_) (fun cdv A outer s H vs Q E hr h => ?_)
  · obtain ⟨a, ns, rfl, _⟩ := h
    rfl
  · obtain ⟨a, ns, rfl, hS, hlen, q⟩ := h
    refine ⟨_, (pss_cons (ps_set (i := 1) sc_law.nd rfl (Or.inr rfl) (pe_call (ok_row T) hr (by rfl) T.g_row T.k_row T.b_row .nil pass0 (pa_cons (pv 0) pa_nil)))
    (pss_cons (ps_set (i := 2) sc_law.nd rfl (Or.inr rfl) (pe_callB call_lenL (by rfl) T.m_len PySem.boot_len (pa_cons (pv 1) pa_nil)))
    (pss_cons (ps_set (i := 3) sc_law.nd rfl (Or.inr rfl) (pe_op op_mod (pe_op op_fdiv (pe_call (ok_cell_at T) (hr.mono (by decide)) (by rfl) T.g_cell_at T.k_cell_at T.b_cell_at .nil pass0 (pa_cons (pv 0) (pa_cons pe_int pa_nil))) pe_int) (pe_op op_add (pv 2) pe_int)))
    (pss_cons (ps_set (i := 4) sc_law.nd rfl (Or.inr rfl) (pe_call (ok_by T) hr (by rfl) T.g_by T.k_by T.b_by .nil pass0 (pa_cons (pv 0) (pa_cons (pv 2) pa_nil))))
    (pss_cons (ps_set (i := 5) sc_law.nd rfl (Or.inr rfl) (pe_op op_cat (pv 1) (pv 1)))
    (pss_cons (ps_set (i := 6) sc_law.nd rfl (Or.inl rfl) (pe_callTy call_lstL (by rfl) T.m_list (by decide +kernel) (pa_cons (pv 1) pa_nil)))
    (pss_cons (ps_set (i := 7) sc_law.nd rfl (Or.inl rfl) (pe_lst (pa_cons (pe_call (ok_counts T) (hr.mono (by decide)) (by rfl) T.g_counts T.k_counts T.b_counts .nil pass0 (pa_cons (pv 6) (pa_cons (pv 3) pa_nil))) (pa_cons (pe_call (ok_turned T) (hr.mono (by decide)) (by rfl) T.g_turned T.k_turned T.b_turned .nil pass0 (pa_cons (pv 6) (pa_cons (pv 4) pa_nil))) (pa_cons (pe_call (ok_turned T) (hr.mono (by decide)) (by rfl) T.g_turned T.k_turned T.bd_turned T.vd_turned pass0 (pa_cons (pv 6) pa_nil)) (pa_cons (pe_call (ok_mirrored T) (hr.mono (by decide)) (by rfl) T.g_mirrored T.k_mirrored T.b_mirrored .nil pass0 (pa_cons (pv 6) pa_nil)) (pa_cons (pe_call (ok_swapped T) (hr.mono (by decide)) (by rfl) T.g_swapped T.k_swapped T.b_swapped .nil pass0 (pa_cons (pv 6) pa_nil)) pa_nil)))))))
    (pss_cons (ps_set (i := 8) sc_law.nd rfl (Or.inl rfl) (pe_lst (pa_cons (pe_lc (own := [("_law_at", 11)]) (g := gName 11) (tt := tYes) rfl sc_law.nd (pi_range1 (by rfl) T.m_range (pa_cons (pv 2) pa_nil)) (blkOk_by (N := N_law) (sc := defScope s_law) (by decide +kernel)) (fun _ _ _ _ _ => pg_name (i := 11) sc_law.nd rfl (Or.inl rfl)) (fun _ _ _ _ _ => pts_nil) (fun _ _ _ _ _ => (pe_callB (sumK (K := K) rfl rfl) (by rfl) T.m_sum bt_sum (pa_cons (pe_slice (slK (K := K) rfl) (pv 5) (po_some (pv 11)) (po_some (pe_op op_add (pv 11) (pv 3)))) pa_nil)))) pa_nil)))
    (pss_cons (ps_expr (pe_bm PySem.F.plainAttrs_list PySem.F.slot_list_append PySem.F.type_list_append mt_append (pv 8) (pa_cons (pe_lc (own := [("_law_at", 11)]) (g := gName 11) (tt := tYes) rfl sc_law.nd (pi_range1 (by rfl) T.m_range (pa_cons (pv 2) pa_nil)) (blkOk_by (N := N_law) (sc := defScope s_law) (by decide +kernel)) (fun _ _ _ _ _ => pg_name (i := 11) sc_law.nd rfl (Or.inl rfl)) (fun _ _ _ _ _ => pts_nil) (fun _ _ _ _ _ => (pe_ix (ixK (K := K) rfl) (pv 1) (pe_op op_mod (pe_op op_add (pv 11) (pv 4)) (pv 2)) (fun _ _ => rfl)))) pa_nil)))
    (pss_cons (ps_expr (pe_bm PySem.F.plainAttrs_list PySem.F.slot_list_append PySem.F.type_list_append mt_append (pv 8) (pa_cons (pe_lc (own := [("_law_at", 11)]) (g := gName 11) (tt := tYes) rfl sc_law.nd (pi_range1 (by rfl) T.m_range (pa_cons (pv 2) pa_nil)) (blkOk_by (N := N_law) (sc := defScope s_law) (by decide +kernel)) (fun _ _ _ _ _ => pg_name (i := 11) sc_law.nd rfl (Or.inl rfl)) (fun _ _ _ _ _ => pts_nil) (fun _ _ _ _ _ => (pe_ix (ixK (K := K) rfl) (pv 1) (pe_op op_mod (pe_op op_add (pv 11) pe_int) (pv 2)) (fun _ _ => rfl)))) pa_nil)))
    (pss_cons (ps_expr (pe_bm PySem.F.plainAttrs_list PySem.F.slot_list_append PySem.F.type_list_append mt_append (pv 8) (pa_cons (pe_lc (own := [("_law_at", 11)]) (g := gName 11) (tt := tYes) rfl sc_law.nd (pi_range1 (by rfl) T.m_range (pa_cons (pv 2) pa_nil)) (blkOk_by (N := N_law) (sc := defScope s_law) (by decide +kernel)) (fun _ _ _ _ _ => pg_name (i := 11) sc_law.nd rfl (Or.inl rfl)) (fun _ _ _ _ _ => pts_nil) (fun _ _ _ _ _ => (pe_ix (ixK (K := K) rfl) (pv 1) (pe_op op_sub (pe_op op_sub (pv 2) pe_int) (pv 11)) (fun _ _ => rfl)))) pa_nil)))
    (pss_cons (ps_expr (pe_bm PySem.F.plainAttrs_list PySem.F.slot_list_append PySem.F.type_list_append mt_append (pv 8) (pa_cons (pe_lc (own := [("_law_at", 11)]) (g := gName 11) (tt := tYes) rfl sc_law.nd (pi_range1 (by rfl) T.m_range (pa_cons (pv 2) pa_nil)) (blkOk_by (N := N_law) (sc := defScope s_law) (by decide +kernel)) (fun _ _ _ _ _ => pg_name (i := 11) sc_law.nd rfl (Or.inl rfl)) (fun _ _ _ _ _ => pts_nil) (fun _ _ _ _ _ => (pe_op op_sub pe_int (pe_ix (ixK (K := K) rfl) (pv 1) (pv 11) (fun _ _ => rfl))))) pa_nil)))
    (pss_cons (ps_for PassesOwn.never rfl (pi_zip (by rfl) T.m_zip (pa_cons (pv 7) (pa_cons (pv 8) pa_nil))) (pg_tup rfl (pgs_cons (pg_name (i := 9) sc_law.nd rfl (Or.inl rfl)) (pgs_cons (pg_name (i := 10) sc_law.nd rfl (Or.inl rfl)) pgs_nil)))
      (pss_cons (ps_if (pt_not (pt_val (pe_call (ok_alike T) (hr.mono (by decide)) (by rfl) T.g_alike T.k_alike T.b_alike .nil pass0 (pa_cons (pv 9) (pa_cons (pv 10) pa_nil)))))
        (pss_one (ps_ret pe_bl))
        pss_nil)
      (pss_cons (ps_expr (pe_bm PySem.F.plainAttrs_list PySem.F.slot_list_append PySem.F.type_list_append mt_append (pv 9) (pa_cons pe_int pa_nil)))
      (pss_cons (ps_if (pt_not (pt_val (pe_call (ok_alike T) (hr.mono (by decide)) (by rfl) T.g_alike T.k_alike T.b_alike .nil pass0 (pa_cons (pv 6) (pa_cons (pv 1) pa_nil)))))
        (pss_one (ps_ret pe_bl))
        pss_nil)
      (pss_one (ps_expr (pe_bm0 PySem.F.plainAttrs_list PySem.F.slot_list_clear PySem.F.type_list_clear mt_clear (pv 9))))))))
    (pss_one (ps_ret (pe_and (pe_call (ok_alike T) (hr.mono (by decide)) (by rfl) T.g_alike T.k_alike T.b_alike .nil pass0 (pa_cons (pv 6) (pa_cons (pv 1) pa_nil))) (pe_one (pe_call (ok_alike T) (hr.mono (by decide)) (by rfl) T.g_alike T.k_alike T.b_alike .nil pass0 (pa_cons (pe_call (ok_turned T) (hr.mono (by decide)) (by rfl) T.g_turned T.k_turned T.b_turned .nil pass0 (pa_cons (pv 6) (pa_cons (pv 4) pa_nil))) (pa_cons (pe_ix ix_list (pv 8) pe_int (fun _ _ => rfl)) pa_nil)))))))))))))))))))), ?_⟩
    repeat walk_at "rd"
    refine ⟨a, ns, rfl, hS, hlen, fun H1 r bs s1 nr er hb1 hb2 => ?_⟩
    have hSr : SqL K H1 r (bs.map V.int) := SqL.of er
    repeat walk_at "rd"
    rw [List.length_map]
    repeat walk_at "rd"
    refine ⟨a, ns, 1, rfl, s1.seq hS, ?_⟩
    repeat walk_at "rd"
    have w0 := Int.emod_nonneg (cell ns 1 / 2) (show (bs.length : Int) + 1 ≠ 0 by omega)
    have w1 := Int.emod_lt_of_pos (cell ns 1 / 2) (show (0 : Int) < bs.length + 1 by omega)
    obtain ⟨w, hw⟩ : ∃ w : Nat, cell ns 1 / 2 % ((bs.length : Int) + 1) = w := ⟨_, (Int.toNat_of_nonneg w0).symm⟩
    rw [hw]
    have hwl : w ≤ bs.length := by omega
    clear w0 w1
    repeat walk_at "rd"
    refine ⟨a, ns, bs.length, rfl, s1.seq hS, fun by' => ?_⟩
    repeat walk_at "rd"
    refine rd_cat er er (by rw [List.length_map]; omega) fun ra nra => ?_
    rw [← List.map_append]
    have s2 := same_new (o := .lst ((bs ++ bs).map V.int)) nra
    have era : upd H1 ra (.lst ((bs ++ bs).map V.int)) ra = some (.lst ((bs ++ bs).map V.int)) := upd_same
    generalize upd H1 ra (.lst ((bs ++ bs).map V.int)) = H2 at s2 era ⊢
    repeat walk_at "rd"
    refine rd_lstOf (s2.seq hSr) fun hd nhd => ?_
    have s3 := same_to (o := .lst (bs.map V.int)) s2 nhd
    have era3 := same_new (o := .lst (bs.map V.int)) nhd _ _ era
    have ehd : upd H2 hd (.lst (bs.map V.int)) hd = some (.lst (bs.map V.int)) := upd_same
    generalize upd H2 hd (.lst (bs.map V.int)) = H3 at s3 era3 ehd ⊢
    have er3 := s3 _ _ er
    repeat walk_at "rd"
    refine ⟨hd, bs, w, rfl, ehd, hwl, hb2, fun H4 f0 t4 n0 e0 => ?_⟩
    repeat walk_at "rd"
    refine ⟨hd, bs, by', rfl, t4 _ _ ehd, hb1, hb2, fun H5 f1 t5 n1 e1 => ?_⟩
    repeat walk_at "rd"
    refine ⟨hd, bs, 1, rfl, t5 _ _ (t4 _ _ ehd), hb1, hb2, fun H6 f2 t6 n2 e2 => ?_⟩
    repeat walk_at "rd"
    refine ⟨hd, bs, rfl, t6 _ _ (t5 _ _ (t4 _ _ ehd)), fun H7 f3 t7 n3 e3 => ?_⟩
    repeat walk_at "rd"
    refine ⟨hd, bs, rfl, t7 _ _ (t6 _ _ (t5 _ _ (t4 _ _ ehd))), hb2, fun H8 f4 t8 n4 e4 => ?_⟩
    repeat walk_at "rd"
    refine ⟨by show 5 ≤ sizeLine; decide, fun tl ntl => ?_⟩
    have t9 := same_new (o := .lst [.ref f0, .ref f1, .ref f2, .ref f3, .ref f4]) ntl
    have etl : upd H8 tl (.lst [.ref f0, .ref f1, .ref f2, .ref f3, .ref f4]) tl = some (.lst ([f0, f1, f2, f3, f4].map V.ref)) := upd_same
    generalize upd H8 tl (.lst [.ref f0, .ref f1, .ref f2, .ref f3, .ref f4]) = H9 at t9 etl ⊢
    -- the five lists told, all at their places, none of them before
    have t39 : Same H3 H9 := t4.trans (t5.trans (t6.trans (t7.trans (t8.trans t9))))
    have g0 := t9 _ _ (t8 _ _ (t7 _ _ (t6 _ _ (t5 _ _ e0))))
    have g1 := t9 _ _ (t8 _ _ (t7 _ _ (t6 _ _ e1)))
    have g2 := t9 _ _ (t8 _ _ (t7 _ _ e2))
    have g3 := t9 _ _ (t8 _ _ e3)
    have g4 := t9 _ _ e4
    have nod : [f0, f1, f2, f3, f4].Nodup := by
      have d01 : f0 ≠ f1 := ne_of_none e0 n1
      have d02 : f0 ≠ f2 := ne_of_none (t5 _ _ e0) n2
      have d03 : f0 ≠ f3 := ne_of_none (t6 _ _ (t5 _ _ e0)) n3
      have d04 : f0 ≠ f4 := ne_of_none (t7 _ _ (t6 _ _ (t5 _ _ e0))) n4
      have d12 : f1 ≠ f2 := ne_of_none e1 n2
      have d13 : f1 ≠ f3 := ne_of_none (t6 _ _ e1) n3
      have d14 : f1 ≠ f4 := ne_of_none (t7 _ _ (t6 _ _ e1)) n4
      have d23 : f2 ≠ f3 := ne_of_none e2 n3
      have d24 : f2 ≠ f4 := ne_of_none (t7 _ _ e2) n4
      have d34 : f3 ≠ f4 := ne_of_none e3 n4
      simp [d01, d02, d03, d04, d12, d13, d14, d23, d24, d34]
    have old : ∀ f ∈ [f0, f1, f2, f3, f4], H3 f = none := fun f hf => by
      simp only [List.mem_cons, List.not_mem_nil, or_false] at hf
      rcases hf with z | z | z | z | z <;> rw [z]
      · exact n0
      · exact t4.free n1
      · exact t4.free (t5.free n2)
      · exact t4.free (t5.free (t6.free n3))
      · exact t4.free (t5.free (t6.free (t7.free n4)))
    have now : ∀ f ∈ [f0, f1, f2, f3, f4], ∃ o, H9 f = some o := fun f hf => by
      simp only [List.mem_cons, List.not_mem_nil, or_false] at hf
      rcases hf with z | z | z | z | z <;> rw [z]
      · exact ⟨_, g0⟩
      · exact ⟨_, g1⟩
      · exact ⟨_, g2⟩
      · exact ⟨_, g3⟩
      · exact ⟨_, g4⟩
    have er9 := t39 _ _ er3
    have era9 := t39 _ _ era3
    have ehd9 := t39 _ _ ehd
    have ntlF : tl ∉ [f0, f1, f2, f3, f4] := fun hm => by
      have : ∀ f ∈ [f0, f1, f2, f3, f4], ∃ o, H8 f = some o := fun f hf => by
        simp only [List.mem_cons, List.not_mem_nil, or_false] at hf
        rcases hf with z | z | z | z | z <;> rw [z]
        · exact ⟨_, t8 _ _ (t7 _ _ (t6 _ _ (t5 _ _ e0)))⟩
        · exact ⟨_, t8 _ _ (t7 _ _ (t6 _ _ e1))⟩
        · exact ⟨_, t8 _ _ (t7 _ _ e2)⟩
        · exact ⟨_, t8 _ _ e3⟩
        · exact ⟨_, e4⟩
      obtain ⟨o, ho⟩ := this tl hm
      rw [ntl] at ho
      cases ho
    have rF : ∀ b o, H3 b = some o → b ∉ [f0, f1, f2, f3, f4] := fun b o hb hm => by
      rw [old b hm] at hb
      cases hb
    clear t4 t5 t6 t7 t8 t9 e0 e1 e2 e3 e4 n0 n1 n2 n3 n4
    -- the five dues
    repeat walk_at "rd"
    refine ⟨(bs.length : Int), rfl, by omega, by omega, ?_⟩
    rw [Int.toNat_natCast]
    refine fun d0 nd0 => lc_range (lo := 0) (n := bs.length) (fun i H' => Same H9 H' ∧ H' d0 = some (.lst (((List.range i).map (cnt bs w)).map V.int))) ⟨same_new nd0, upd_same⟩ ?_ ?_
    · rintro i H' hi ⟨sm, eD⟩
      refine ⟨rfl, ?_⟩
      repeat walk_at "rd"
      refine rd_slL (SqL.of (sm _ _ era9)) fun c nc => ?_
      have ec : cutV ((bs ++ bs).map V.int) (some (0 + (i : Int))) (some (0 + (i : Int) + (w : Int))) = (((bs ++ bs).drop i).take w).map V.int := by
        have := cut_mid (ns := bs ++ bs) (a := i) (b := i + w) (by omega) (by rw [List.length_append]; omega)
        rw [show i + w - i = w by omega, Int.natCast_add] at this
        rw [Int.zero_add]
        exact this
      rw [ec]
      repeat walk_at "rd"
      refine rd_sum (SqL.of upd_same) ?_
      exact lc_done nd0 (same_to sm nc) (same_new nc _ _ eD) (by omega) (twice_cut (by omega))
    rintro H10 ⟨u10, ed0⟩
    repeat walk_at "rd"
    refine ⟨by show 1 ≤ sizeLine; decide, fun dl ndl => ?_⟩
    have x0 : d0 ≠ dl := ne_of_none ed0 ndl
    have ndl9 : H9 dl = none := u10.free ndl
    have u20 := same_to (o := .lst [.ref d0]) u10 ndl
    have ed0 := same_new (o := .lst [.ref d0]) ndl _ _ ed0
    have edl : upd H10 dl (.lst [.ref d0]) dl = some (.lst [.ref d0]) := upd_same
    generalize upd H10 dl (.lst [.ref d0]) = H20 at u20 ed0 edl ⊢
    repeat walk_at "rd"
    refine rd_tyL edl ?_
    repeat walk_at "rd"
    refine ⟨(bs.length : Int), rfl, by omega, by omega, ?_⟩
    rw [Int.toNat_natCast]
    refine fun d1 nd1 => lc_range (lo := 0) (n := bs.length) (fun i H' => Same H20 H' ∧ H' d1 = some (.lst (((List.range i).map (nth (roll bs (by' % bs.length).toNat))).map V.int))) ⟨same_new nd1, upd_same⟩ ?_ ?_
    · rintro i H' hi ⟨sm, eD⟩
      have erx : SqL K H' r (bs.map V.int) := SqL.of (sm _ _ (u20 _ _ er9))
      refine ⟨rfl, ?_⟩
      repeat walk_at "rd"
      refine rd_ixL erx (roll_el hb1 hi (nth_at (by rw [roll_len (by have := Int.emod_nonneg by' (show (bs.length : Int) ≠ 0 by omega); have := Int.emod_lt_of_pos by' (show (0 : Int) < bs.length by omega); omega)]; exact hi))) ?_
      exact lc_done nd1 sm eD (by omega) rfl

    rintro He ⟨ue, ed1⟩
    rw [tab_len_of (roll_len (by have := Int.emod_nonneg by' (show (bs.length : Int) ≠ 0 by omega); have := Int.emod_lt_of_pos by' (show (0 : Int) < bs.length by omega); omega))] at ed1
    have x1 : d1 ≠ dl := Ne.symm (ne_of_none edl nd1)
    have nd1 := u20.free nd1
    repeat walk_at "rd"
    refine rd_app (ue _ _ edl) (by show 1 < 1000; decide) ?_
    have u21 := same_put (o := .lst ([.ref d0] ++ [.ref d1])) (u20.trans ue) ndl9
    have edl : upd He dl (.lst ([.ref d0] ++ [.ref d1])) dl = some (.lst [.ref d0, .ref d1]) := upd_same
    have ed0 := (upd_ne (o := .lst ([.ref d0] ++ [.ref d1])) x0).trans (ue _ _ ed0)
    have ed1 := (upd_ne (o := .lst ([.ref d0] ++ [.ref d1])) x1).trans ed1
    generalize upd He dl (.lst ([.ref d0] ++ [.ref d1])) = H21 at u21 edl ed0 ed1 ⊢
    repeat walk_at "rd"
    refine rd_tyL edl ?_
    repeat walk_at "rd"
    refine ⟨(bs.length : Int), rfl, by omega, by omega, ?_⟩
    rw [Int.toNat_natCast]
    refine fun d2 nd2 => lc_range (lo := 0) (n := bs.length) (fun i H' => Same H21 H' ∧ H' d2 = some (.lst (((List.range i).map (nth (roll bs ((1 : Int) % bs.length).toNat))).map V.int))) ⟨same_new nd2, upd_same⟩ ?_ ?_
    · rintro i H' hi ⟨sm, eD⟩
      have erx : SqL K H' r (bs.map V.int) := SqL.of (sm _ _ (u21 _ _ er9))
      refine ⟨rfl, ?_⟩
      repeat walk_at "rd"
      refine rd_ixL erx (roll_el hb1 hi (nth_at (by rw [roll_len (by have := Int.emod_nonneg 1 (show (bs.length : Int) ≠ 0 by omega); have := Int.emod_lt_of_pos 1 (show (0 : Int) < bs.length by omega); omega)]; exact hi))) ?_
      exact lc_done nd2 sm eD (by omega) rfl

    rintro He ⟨ue, ed2⟩
    rw [tab_len_of (roll_len (by have := Int.emod_nonneg 1 (show (bs.length : Int) ≠ 0 by omega); have := Int.emod_lt_of_pos 1 (show (0 : Int) < bs.length by omega); omega))] at ed2
    have x2 : d2 ≠ dl := Ne.symm (ne_of_none edl nd2)
    have nd2 := u21.free nd2
    repeat walk_at "rd"
    refine rd_app (ue _ _ edl) (by show 2 < 1000; decide) ?_
    have u22 := same_put (o := .lst ([.ref d0, .ref d1] ++ [.ref d2])) (u21.trans ue) ndl9
    have edl : upd He dl (.lst ([.ref d0, .ref d1] ++ [.ref d2])) dl = some (.lst [.ref d0, .ref d1, .ref d2]) := upd_same
    have ed0 := (upd_ne (o := .lst ([.ref d0, .ref d1] ++ [.ref d2])) x0).trans (ue _ _ ed0)
    have ed1 := (upd_ne (o := .lst ([.ref d0, .ref d1] ++ [.ref d2])) x1).trans (ue _ _ ed1)
    have ed2 := (upd_ne (o := .lst ([.ref d0, .ref d1] ++ [.ref d2])) x2).trans ed2
    generalize upd He dl (.lst ([.ref d0, .ref d1] ++ [.ref d2])) = H22 at u22 edl ed0 ed1 ed2 ⊢
    repeat walk_at "rd"
    refine rd_tyL edl ?_
    repeat walk_at "rd"
    refine ⟨(bs.length : Int), rfl, by omega, by omega, ?_⟩
    rw [Int.toNat_natCast]
    refine fun d3 nd3 => lc_range (lo := 0) (n := bs.length) (fun i H' => Same H22 H' ∧ H' d3 = some (.lst (((List.range i).map (nth bs.reverse)).map V.int))) ⟨same_new nd3, upd_same⟩ ?_ ?_
    · rintro i H' hi ⟨sm, eD⟩
      have erx : SqL K H' r (bs.map V.int) := SqL.of (sm _ _ (u22 _ _ er9))
      refine ⟨rfl, ?_⟩
      repeat walk_at "rd"
      refine rd_ixL erx (el_rev hi) ?_
      exact lc_done nd3 sm eD (by omega) rfl

    rintro He ⟨ue, ed3⟩
    rw [tab_len_of List.length_reverse] at ed3
    have x3 : d3 ≠ dl := Ne.symm (ne_of_none edl nd3)
    have nd3 := u22.free nd3
    repeat walk_at "rd"
    refine rd_app (ue _ _ edl) (by show 3 < 1000; decide) ?_
    have u23 := same_put (o := .lst ([.ref d0, .ref d1, .ref d2] ++ [.ref d3])) (u22.trans ue) ndl9
    have edl : upd He dl (.lst ([.ref d0, .ref d1, .ref d2] ++ [.ref d3])) dl = some (.lst [.ref d0, .ref d1, .ref d2, .ref d3]) := upd_same
    have ed0 := (upd_ne (o := .lst ([.ref d0, .ref d1, .ref d2] ++ [.ref d3])) x0).trans (ue _ _ ed0)
    have ed1 := (upd_ne (o := .lst ([.ref d0, .ref d1, .ref d2] ++ [.ref d3])) x1).trans (ue _ _ ed1)
    have ed2 := (upd_ne (o := .lst ([.ref d0, .ref d1, .ref d2] ++ [.ref d3])) x2).trans (ue _ _ ed2)
    have ed3 := (upd_ne (o := .lst ([.ref d0, .ref d1, .ref d2] ++ [.ref d3])) x3).trans ed3
    generalize upd He dl (.lst ([.ref d0, .ref d1, .ref d2] ++ [.ref d3])) = H23 at u23 edl ed0 ed1 ed2 ed3 ⊢
    repeat walk_at "rd"
    refine rd_tyL edl ?_
    repeat walk_at "rd"
    refine ⟨(bs.length : Int), rfl, by omega, by omega, ?_⟩
    rw [Int.toNat_natCast]
    refine fun d4 nd4 => lc_range (lo := 0) (n := bs.length) (fun i H' => Same H23 H' ∧ H' d4 = some (.lst (((List.range i).map (nth (swap bs))).map V.int))) ⟨same_new nd4, upd_same⟩ ?_ ?_
    · rintro i H' hi ⟨sm, eD⟩
      have erx : SqL K H' r (bs.map V.int) := SqL.of (sm _ _ (u23 _ _ er9))
      refine ⟨rfl, ?_⟩
      repeat walk_at "rd"
      refine rd_ixL erx (at_of (j := i) (v := .int (nth bs i)) (by omega) (int_at (nth_at hi))) ?_
      repeat walk_at "rd"
      exact lc_done nd4 sm eD (by omega) (el_swap hi)

    rintro He ⟨ue, ed4⟩
    rw [tab_len_of (swap_len bs)] at ed4
    have x4 : d4 ≠ dl := Ne.symm (ne_of_none edl nd4)
    have nd4 := u23.free nd4
    repeat walk_at "rd"
    refine rd_app (ue _ _ edl) (by show 4 < 1000; decide) ?_
    have u24 := same_put (o := .lst ([.ref d0, .ref d1, .ref d2, .ref d3] ++ [.ref d4])) (u23.trans ue) ndl9
    have edl : upd He dl (.lst ([.ref d0, .ref d1, .ref d2, .ref d3] ++ [.ref d4])) dl = some (.lst [.ref d0, .ref d1, .ref d2, .ref d3, .ref d4]) := upd_same
    have ed0 := (upd_ne (o := .lst ([.ref d0, .ref d1, .ref d2, .ref d3] ++ [.ref d4])) x0).trans (ue _ _ ed0)
    have ed1 := (upd_ne (o := .lst ([.ref d0, .ref d1, .ref d2, .ref d3] ++ [.ref d4])) x1).trans (ue _ _ ed1)
    have ed2 := (upd_ne (o := .lst ([.ref d0, .ref d1, .ref d2, .ref d3] ++ [.ref d4])) x2).trans (ue _ _ ed2)
    have ed3 := (upd_ne (o := .lst ([.ref d0, .ref d1, .ref d2, .ref d3] ++ [.ref d4])) x3).trans (ue _ _ ed3)
    have ed4 := (upd_ne (o := .lst ([.ref d0, .ref d1, .ref d2, .ref d3] ++ [.ref d4])) x4).trans ed4
    generalize upd He dl (.lst ([.ref d0, .ref d1, .ref d2, .ref d3] ++ [.ref d4])) = H24 at u24 edl ed0 ed1 ed2 ed3 ed4 ⊢
    repeat walk_at "rd"
    -- the loop
    have nin : ∀ d, H9 d = none → d ∉ [f0, f1, f2, f3, f4] := fun d hd' hm => by
      obtain ⟨o, ho⟩ := now d hm
      rw [hd'] at ho
      cases ho
    have nd0 := nin d0 nd0
    have nd1 := nin d1 nd1
    have nd2 := nin d2 nd2
    have nd3 := nin d3 nd3
    have nd4 := nin d4 nd4
    have ndl := nin dl ndl9
    have etl := u24 _ _ etl
    have er24 := u24 _ _ er9
    have ehd24 := u24 _ _ ehd9
    have hrF := rF r _ er3
    have hdF := rF hd _ ehd
    have told : ∀ (j : Nat) (f : Addr) (l : List Int), [f0, f1, f2, f3, f4][j]? = some f → [cntsOf bs w, roll bs (by' % bs.length).toNat, roll bs ((1 : Int) % bs.length).toNat, bs.reverse, swap bs][j]? = some l → H24 f = some (.lst (l.map V.int)) := fun j f l hf hl => by
      rcases j with _ | _ | _ | _ | _ | j
      · cases hf; cases hl; exact u24 _ _ g0
      · cases hf; cases hl; exact u24 _ _ g1
      · cases hf; cases hl; exact u24 _ _ g2
      · cases hf; cases hl; exact u24 _ _ g3
      · cases hf; cases hl; exact u24 _ _ g4
      · cases hf
    have duel : ∀ (j : Nat) (f : Addr) (l : List Int), [d0, d1, d2, d3, d4][j]? = some f → [cntsOf bs w, roll bs (by' % bs.length).toNat, roll bs ((1 : Int) % bs.length).toNat, bs.reverse, swap bs][j]? = some l → H24 f = some (.lst (l.map V.int)) ∧ f ∉ [f0, f1, f2, f3, f4] := fun j f l hf hl => by
      rcases j with _ | _ | _ | _ | _ | j
      · cases hf; cases hl; exact ⟨ed0, nd0⟩
      · cases hf; cases hl; exact ⟨ed1, nd1⟩
      · cases hf; cases hl; exact ⟨ed2, nd2⟩
      · cases hf; cases hl; exact ⟨ed3, nd3⟩
      · cases hf; cases hl; exact ⟨ed4, nd4⟩
      · cases hf
    have hLL : [cntsOf bs w, roll bs (by' % bs.length).toNat, roll bs ((1 : Int) % bs.length).toNat, bs.reverse, swap bs].length = 5 := rfl
    have small : ∀ l ∈ [cntsOf bs w, roll bs (by' % bs.length).toNat, roll bs ((1 : Int) % bs.length).toNat, bs.reverse, swap bs], l.length ≤ 120 := fun l hl => by
      have r1 : ∀ t : Nat, (roll bs t).length ≤ 120 := fun t => by
        unfold roll
        rw [List.length_append, List.length_drop, List.length_take]
        omega
      simp only [List.mem_cons, List.not_mem_nil, or_false] at hl
      rcases hl with z | z | z | z | z <;> rw [z]
      · rw [cnts_len]; exact hb2
      · exact r1 _
      · exact r1 _
      · rw [List.length_reverse]; exact hb2
      · rw [swap_len]; exact hb2
    have edlm : H24 dl = some (.lst ([d0, d1, d2, d3, d4].map V.ref)) := edl
    have end1 : H24 d1 = some (.lst ((roll bs (by' % bs.length).toNat).map V.int)) := ed1
    have hLF : [f0, f1, f2, f3, f4].length = 5 := rfl
    have htlF := ntlF
    generalize [cntsOf bs w, roll bs (by' % bs.length).toNat, roll bs ((1 : Int) % bs.length).toNat, bs.reverse, swap bs] = LL at told duel hLL small
    generalize hDD : [d0, d1, d2, d3, d4] = DD at duel edlm
    generalize [f0, f1, f2, f3, f4] = FF at told duel etl hLF htlF hrF hdF nod nd0 nd1 ndl ⊢
    have hDL : DD.length = 5 := by rw [← hDD]; rfl
    refine ⟨tl, dl, _, _, rfl, SqL.of etl, SqL.of edlm, RZ.for_zipL (xs := FF.map V.ref) (ys := DD.map V.ref) (by rw [List.length_map, List.length_map, hLF, hDL]) (fun i σ H' => (∃ x9 x10, σ = [some (.ref a), some (.ref r), some (.int bs.length), some (.int w), some (.int by'), some (.ref ra), some (.ref hd), some (.ref tl), some (.ref dl), x9, x10, none]) ∧
      (∀ b o, b ∉ FF → H24 b = some o → H' b = some o) ∧ ∀ (j : Nat) (f : Addr) (l : List Int), i ≤ j → FF[j]? = some f → LL[j]? = some l → H' f = some (.lst (l.map V.int))) ⟨⟨_, _, rfl⟩, fun _ _ _ h => h, fun j f l _ => told j f l⟩ (fun i σ H' h' => ⟨SqL.of (h'.2.1 _ _ htlF etl), SqL.of (h'.2.1 _ _ ndl edlm)⟩) ?_ ?_⟩
    · rintro i x y t σ H' hx hy ⟨⟨x9, x10, rfl⟩, keep, rest⟩ nt
      rw [List.getElem?_map] at hx hy
      cases gf : FF[i]? with
      | none =>
        rw [gf] at hx
        cases hx
      | some f =>
        cases gd : DD[i]? with
        | none =>
          rw [gd] at hy
          cases hy
        | some d =>
          rw [gf] at hx
          rw [gd] at hy
          cases hx
          cases hy
          have li : i < LL.length := by
            have := (List.getElem?_eq_some_iff.mp gf).1
            omega
          have gl : LL[i]? = some LL[i] := List.getElem?_eq_getElem li
          have lsm := small _ (List.getElem_mem li)
          generalize LL[i] = l at gl lsm
          have eF := rest i f l (Nat.le_refl _) gf gl
          obtain ⟨eD, hdF'⟩ := duel i d l gd gl
          have eD := keep _ _ hdF' eD
          have fF : f ∈ FF := List.mem_of_getElem? gf
          have k1 : Same H' (upd H' t (.tup [.ref f, .ref d])) := same_new nt
          have et : upd H' t (.tup [.ref f, .ref d]) t = some (.tup [.ref f, .ref d]) := upd_same
          generalize upd H' t (.tup [.ref f, .ref d]) = H30 at k1 et ⊢
          repeat walk_at "rd"
          refine ⟨f, d, l, rfl, k1 _ _ eF, k1 _ _ eD, fun H31 k2 => ?_⟩
          repeat walk_at "rd"
          have k3 := k1.trans k2
          have eF3 := k3 _ _ eF
          refine rd_tyL eF3 ?_
          repeat walk_at "rd"
          refine rd_app eF3 (by rw [List.length_map]; omega) ?_
          have k4 : ∀ b o, b ≠ f → H' b = some o → upd H31 f (.lst (l.map V.int ++ [.int 2])) b = some o := fun b o hb h => (upd_ne hb).trans (k3 _ _ h)
          have eF4 : upd H31 f (.lst (l.map V.int ++ [.int 2])) f = some (.lst (l.map V.int ++ [.int 2])) := upd_same
          generalize upd H31 f (.lst (l.map V.int ++ [.int 2])) = H32 at k4 eF4 ⊢
          have hrf : r ≠ f := fun z => hrF (by rw [z]; exact fF)
          have hdf : hd ≠ f := fun z => hdF (by rw [z]; exact fF)
          repeat walk_at "rd"
          refine ⟨hd, r, bs, rfl, k4 _ _ hdf (keep _ _ hdF ehd24), k4 _ _ hrf (keep _ _ hrF er24), fun H33 k5 => ?_⟩
          repeat walk_at "rd"
          have eF5 := k5 _ _ eF4
          refine rd_tyL eF5 ?_
          refine rd_clear eF5 ?_
          repeat walk_at "rd"
          refine ⟨⟨_, _, rfl⟩, fun b o hb h => ?_, fun j f' l' hj hf' hl' => ?_⟩
          · have hbf : b ≠ f := fun z => hb (by rw [z]; exact fF)
            exact (upd_ne hbf).trans (k5 _ _ (k4 _ _ hbf (keep _ _ hb h)))
          · have hff : f' ≠ f := fun z => by
              rw [z] at hf'
              have := nd_ix nod hf' gf
              omega
            exact (upd_ne hff).trans (k5 _ _ (k4 _ _ hff (rest j f' l' (by omega) hf' hl')))
    · rintro σ H' ⟨⟨x9, x10, rfl⟩, keep, rest⟩
      repeat walk_at "rd"
      refine ⟨hd, r, bs, rfl, keep _ _ hdF ehd24, keep _ _ hrF er24, fun H31 k1 => ?_⟩
      repeat walk_at "rd"
      refine ⟨hd, bs, by', rfl, k1 _ _ (keep _ _ hdF ehd24), hb1, hb2, fun H32 e k2 ne ee => ?_⟩
      repeat walk_at "rd"
      have edl2 := k2 _ _ (k1 _ _ (keep _ _ ndl edlm))
      rw [← hDD] at edl2
      refine rd_ixL (SqL.of edl2) (atI_nat (j := 1) rfl) ?_
      repeat walk_at "rd"
      refine ⟨e, d1, _, rfl, ee, k2 _ _ (k1 _ _ (keep _ _ nd1 end1)), fun H33 k3 => ?_⟩
      exact q H33
end
/-! ### what the top has written -/
theorem all_mk {l : PySem.W.OpenLaw} {w : World} {K : PySem.W.Frag} {h : Heap} {mg : Str → Option Value} {fa : Addr} (X : K.In h) (G : h.Ns mainGlobals mg) (hfa : mg "law" = some (.ref fa))
    {f1 : Addr} {od1 an1 : Option Addr} {sl1 : Array (Option Value)} {oc1 kV1 dc1 pm1 cd1 ct1 : Value}
    {f2 : Addr} {od2 an2 : Option Addr} {sl2 : Array (Option Value)} {oc2 dV2 kV2 dc2 pm2 cd2 ct2 : Value}
    {td2 : Addr} {to2 : Obj} {ti2 : Tok}
    {f3 : Addr} {od3 an3 : Option Addr} {sl3 : Array (Option Value)} {oc3 kV3 dc3 pm3 cd3 ct3 : Value}
    {f4 : Addr} {od4 an4 : Option Addr} {sl4 : Array (Option Value)} {oc4 kV4 dc4 pm4 cd4 ct4 : Value}
    {f5 : Addr} {od5 an5 : Option Addr} {sl5 : Array (Option Value)} {oc5 kV5 dc5 pm5 cd5 ct5 : Value}
    {f6 : Addr} {od6 an6 : Option Addr} {sl6 : Array (Option Value)} {oc6 kV6 dc6 pm6 cd6 ct6 : Value}
    {f7 : Addr} {od7 an7 : Option Addr} {sl7 : Array (Option Value)} {oc7 kV7 dc7 pm7 cd7 ct7 : Value}
    {f8 : Addr} {od8 an8 : Option Addr} {sl8 : Array (Option Value)} {oc8 kV8 dc8 pm8 cd8 ct8 : Value}
    {f9 : Addr} {od9 an9 : Option Addr} {sl9 : Array (Option Value)} {oc9 kV9 dc9 pm9 cd9 ct9 : Value}
    (a1 : PySem.W.nsIn K mainGlobals "counts" = some (some (.ref f1)))
    (l1 : K.lookup f1 = some ⟨oc1, od1, .func (PySem.W.fnOf "counts" "counts" (defArgs s_counts) (defBody s_counts) (defScope s_counts) .none kV1 dc1 pm1 an1 cd1 ct1), sl1⟩)
    (c1 : PySem.W.codeIn K cd1 "counts" = true)
    (k1 : PySem.W.keepIn K (.ref f1) = true)
    (a2 : PySem.W.nsIn K mainGlobals "turned" = some (some (.ref f2)))
    (l2 : K.lookup f2 = some ⟨oc2, od2, .func (PySem.W.fnOf "turned" "turned" (defArgs s_turned) (defBody s_turned) (defScope s_turned) dV2 kV2 dc2 pm2 an2 cd2 ct2), sl2⟩)
    (c2 : PySem.W.codeIn K cd2 "turned" = true)
    (k2 : PySem.W.keepIn K (.ref f2) = true)
    (d2 : dV2 = .ref td2 ∧ K.lookup td2 = some to2 ∧ ∃ nn, to2.data = .seq #[.int 1 ti2] nn)
    (a3 : PySem.W.nsIn K mainGlobals "mirrored" = some (some (.ref f3)))
    (l3 : K.lookup f3 = some ⟨oc3, od3, .func (PySem.W.fnOf "mirrored" "mirrored" (defArgs s_mirrored) (defBody s_mirrored) (defScope s_mirrored) .none kV3 dc3 pm3 an3 cd3 ct3), sl3⟩)
    (c3 : PySem.W.codeIn K cd3 "mirrored" = true)
    (k3 : PySem.W.keepIn K (.ref f3) = true)
    (a4 : PySem.W.nsIn K mainGlobals "swapped" = some (some (.ref f4)))
    (l4 : K.lookup f4 = some ⟨oc4, od4, .func (PySem.W.fnOf "swapped" "swapped" (defArgs s_swapped) (defBody s_swapped) (defScope s_swapped) .none kV4 dc4 pm4 an4 cd4 ct4), sl4⟩)
    (c4 : PySem.W.codeIn K cd4 "swapped" = true)
    (k4 : PySem.W.keepIn K (.ref f4) = true)
    (a5 : PySem.W.nsIn K mainGlobals "_law_cell_at" = some (some (.ref f5)))
    (l5 : K.lookup f5 = some ⟨oc5, od5, .func (PySem.W.fnOf "_law_cell_at" "_law_cell_at" (defArgs s_cell_at) (defBody s_cell_at) (defScope s_cell_at) .none kV5 dc5 pm5 an5 cd5 ct5), sl5⟩)
    (c5 : PySem.W.codeIn K cd5 "_law_cell_at" = true)
    (k5 : PySem.W.keepIn K (.ref f5) = true)
    (a6 : PySem.W.nsIn K mainGlobals "_law_row" = some (some (.ref f6)))
    (l6 : K.lookup f6 = some ⟨oc6, od6, .func (PySem.W.fnOf "_law_row" "_law_row" (defArgs s_row) (defBody s_row) (defScope s_row) .none kV6 dc6 pm6 an6 cd6 ct6), sl6⟩)
    (c6 : PySem.W.codeIn K cd6 "_law_row" = true)
    (k6 : PySem.W.keepIn K (.ref f6) = true)
    (a7 : PySem.W.nsIn K mainGlobals "_law_by" = some (some (.ref f7)))
    (l7 : K.lookup f7 = some ⟨oc7, od7, .func (PySem.W.fnOf "_law_by" "_law_by" (defArgs s_by) (defBody s_by) (defScope s_by) .none kV7 dc7 pm7 an7 cd7 ct7), sl7⟩)
    (c7 : PySem.W.codeIn K cd7 "_law_by" = true)
    (k7 : PySem.W.keepIn K (.ref f7) = true)
    (a8 : PySem.W.nsIn K mainGlobals "_law_alike" = some (some (.ref f8)))
    (l8 : K.lookup f8 = some ⟨oc8, od8, .func (PySem.W.fnOf "_law_alike" "_law_alike" (defArgs s_alike) (defBody s_alike) (defScope s_alike) .none kV8 dc8 pm8 an8 cd8 ct8), sl8⟩)
    (c8 : PySem.W.codeIn K cd8 "_law_alike" = true)
    (k8 : PySem.W.keepIn K (.ref f8) = true)
    (a9 : PySem.W.nsIn K mainGlobals "law" = some (some (.ref f9)))
    (l9 : K.lookup f9 = some ⟨oc9, od9, .func (PySem.W.fnOf "law" "law" (defArgs s_law) (defBody s_law) (defScope s_law) .none kV9 dc9 pm9 an9 cd9 ct9), sl9⟩)
    (c9 : PySem.W.codeIn K cd9 "law" = true)
    (k9 : PySem.W.keepIn K (.ref f9) = true)
    (z_range : PySem.W.nsIn K mainGlobals "range" = some none)
    (z_len : PySem.W.nsIn K mainGlobals "len" = some none)
    (z_sum : PySem.W.nsIn K mainGlobals "sum" = some none)
    (z_list : PySem.W.nsIn K mainGlobals "list" = some none)
    (z_reversed : PySem.W.nsIn K mainGlobals "reversed" = some none)
    (z_zip : PySem.W.nsIn K mainGlobals "zip" = some none)
    (z_isinstance : PySem.W.nsIn K mainGlobals "isinstance" = some none)
    (z_bool : PySem.W.nsIn K mainGlobals "bool" = some none)
    (z_int : PySem.W.nsIn K mainGlobals "int" = some none)
    : ∃ fd : FuncData, (∀ (s : Shared) (v : Value), BindsTo s fd ⟨[v], []⟩ [("_law_script", v)]) ∧ ∀ base : Heap, K.In base → base.Ns mainGlobals mg → FnOk l.prog w K mg base CX0 3 fa fd ["_law_script"] (sp_law K) := by
  have e := hfa.symm.trans (PySem.W.mg_of X G a9)
  cases e
  have F1 := fun_mk (st := s_counts) l1 c1 k1
  obtain ⟨e2, dl2, nn2, dd2⟩ := d2
  have F2 : FunD K "turned" "turned" (defArgs s_turned) (defBody s_turned) (defScope s_turned) [V.int 1] [] f2 (PySem.W.fnOf "turned" "turned" (defArgs s_turned) (defBody s_turned) (defScope s_turned) dV2 kV2 dc2 pm2 an2 cd2 ct2) := ⟨⟨oc2, od2, dV2, kV2, dc2, pm2, an2, cd2, ct2, sl2, rfl, l2, c2, .inr ⟨by simp, td2, to2, [.int 1 ti2], nn2, e2, dl2, dd2, .cons ⟨_, rfl⟩ .nil⟩, .inl rfl⟩, k2⟩
  obtain ⟨ds2, vd2, bd2⟩ := F2.binds1 (ps := ["row", "by"]) 1 0 (by simp) rfl (fun Tt kV doc pm an cdv ct us its hl hi => ⟨_, rfl, match us, its, hl, hi with | [_], [_], _, _ => rfl⟩)
  obtain ⟨db2, vb2, bb2⟩ := F2.binds1 (ps := ["row", "by"]) 2 1 (by simp) rfl (fun Tt kV doc pm an cdv ct us its hl hi => ⟨_, rfl, match us, its, hl, hi with | [_, _], [_], _, _ => rfl⟩)
  have vb2 : Vals [] db2 := vb2
  cases vb2
  have F3 := fun_mk (st := s_mirrored) l3 c3 k3
  have F4 := fun_mk (st := s_swapped) l4 c4 k4
  have F5 := fun_mk (st := s_cell_at) l5 c5 k5
  have F6 := fun_mk (st := s_row) l6 c6 k6
  have F7 := fun_mk (st := s_by) l7 c7 k7
  have F8 := fun_mk (st := s_alike) l8 c8 k8
  have F9 := fun_mk (st := s_law) l9 c9 k9
  have T : Txt K mg := {
    f_counts := f1, fd_counts := _, F_counts := F1, k_counts := k1, g_counts := PySem.W.mg_of X G a1, b_counts := F1.binds (ps := ["row", "width"]) (fun _ _ _ _ _ _ us hl => match us, hl with | [_, _], _ => rfl),
    f_turned := f2, fd_turned := _, F_turned := F2, k_turned := k2, ds_turned := ds2, bd_turned := bd2, vd_turned := vd2, g_turned := PySem.W.mg_of X G a2, b_turned := bb2,
    f_mirrored := f3, fd_mirrored := _, F_mirrored := F3, k_mirrored := k3, g_mirrored := PySem.W.mg_of X G a3, b_mirrored := F3.binds (ps := ["row"]) (fun _ _ _ _ _ _ us hl => match us, hl with | [_], _ => rfl),
    f_swapped := f4, fd_swapped := _, F_swapped := F4, k_swapped := k4, g_swapped := PySem.W.mg_of X G a4, b_swapped := F4.binds (ps := ["row"]) (fun _ _ _ _ _ _ us hl => match us, hl with | [_], _ => rfl),
    f_cell_at := f5, fd_cell_at := _, F_cell_at := F5, k_cell_at := k5, g_cell_at := PySem.W.mg_of X G a5, b_cell_at := F5.binds (ps := ["_law_script", "_law_k"]) (fun _ _ _ _ _ _ us hl => match us, hl with | [_, _], _ => rfl),
    f_row := f6, fd_row := _, F_row := F6, k_row := k6, g_row := PySem.W.mg_of X G a6, b_row := F6.binds (ps := ["_law_script"]) (fun _ _ _ _ _ _ us hl => match us, hl with | [_], _ => rfl),
    f_by := f7, fd_by := _, F_by := F7, k_by := k7, g_by := PySem.W.mg_of X G a7, b_by := F7.binds (ps := ["_law_script", "_law_many"]) (fun _ _ _ _ _ _ us hl => match us, hl with | [_, _], _ => rfl),
    f_alike := f8, fd_alike := _, F_alike := F8, k_alike := k8, g_alike := PySem.W.mg_of X G a8, b_alike := F8.binds (ps := ["_law_found", "_law_due"]) (fun _ _ _ _ _ _ us hl => match us, hl with | [_, _], _ => rfl),
    m_range := PySem.W.mg_none_of X G z_range,
    m_len := PySem.W.mg_none_of X G z_len,
    m_sum := PySem.W.mg_none_of X G z_sum,
    m_list := PySem.W.mg_none_of X G z_list,
    m_reversed := PySem.W.mg_none_of X G z_reversed,
    m_zip := PySem.W.mg_none_of X G z_zip,
    m_isinstance := PySem.W.mg_none_of X G z_isinstance,
    m_bool := PySem.W.mg_none_of X G z_bool,
    m_int := PySem.W.mg_none_of X G z_int }
  have FT : Fun K "law" "law" s_law fa (PySem.W.fnOf "law" "law" (defArgs s_law) (defBody s_law) (defScope s_law) .none kV9 dc9 pm9 an9 cd9 ct9) := F9
  refine ⟨_, fun s v => ?_, fun base _ _ => ok_law T FT⟩
  exact .of_eq rfl
end Eb
open PySem PySem.W PyProof.Rows
set_option maxHeartbeats 0 in
theorem PySem.Challenge.cw_evenbeat_k04_turns_and_counts_holds : PySem.Challenge.rw_evenbeat_k04_turns_and_counts.Holds := by
  w_on; o_law; k_head; (case hw => w_witness2)
  k_fill
  refine L2.walk_of (l := PySem.Challenge.rw_evenbeat_k04_turns_and_counts) (n := 63) (k := 3) (x := "_law_script") (CX := fun _ => L2.CX0) (sp := fun w => Eb.sp_law _) rfl (by decide) rfl ⟨rfl, by decide, by decide⟩ (fun w h Y => PySem.W.kIn_of Y) ?F (fun _ _ a ns hl _ hS => ⟨a, ns, rfl, hS, hl, fun _ => rfl⟩) (fun _ _ _ _ _ h => h)
  case F =>
    intro w mg fa h KX G hmg
    refine' Eb.all_mk KX G hmg ?a1 ?l1 ?c1 ?k1 ?a2 ?l2 ?c2 ?k2 ?d2 ?a3 ?l3 ?c3 ?k3 ?a4 ?l4 ?c4 ?k4 ?a5 ?l5 ?c5 ?k5 ?a6 ?l6 ?c6 ?k6 ?a7 ?l7 ?c7 ?k7 ?a8 ?l8 ?c8 ?k8 ?a9 ?l9 ?c9 ?k9 ?z_range ?z_len ?z_sum ?z_list ?z_reversed ?z_zip ?z_isinstance ?z_bool ?z_int
    (case a1 => k_is)
    (case l1 => k_is)
    (case c1 => k_is)
    (case k1 => k_is)
    (case a2 => k_is)
    (case l2 => k_is)
    (case c2 => k_is)
    (case k2 => k_is)
    (case d2 => exact ⟨rfl, by k_is, _, rfl⟩)
    (case a3 => k_is)
    (case l3 => k_is)
    (case c3 => k_is)
    (case k3 => k_is)
    (case a4 => k_is)
    (case l4 => k_is)
    (case c4 => k_is)
    (case k4 => k_is)
    (case a5 => k_is)
    (case l5 => k_is)
    (case c5 => k_is)
    (case k5 => k_is)
    (case a6 => k_is)
    (case l6 => k_is)
    (case c6 => k_is)
    (case k6 => k_is)
    (case a7 => k_is)
    (case l7 => k_is)
    (case c7 => k_is)
    (case k7 => k_is)
    (case a8 => k_is)
    (case l8 => k_is)
    (case c8 => k_is)
    (case k8 => k_is)
    (case a9 => k_is)
    (case l9 => k_is)
    (case c9 => k_is)
    (case k9 => k_is)
    (case z_range => k_is)
    (case z_len => k_is)
    (case z_sum => k_is)
    (case z_list => k_is)
    (case z_reversed => k_is)
    (case z_zip => k_is)
    (case z_isinstance => k_is)
    (case z_bool => k_is)
    (case z_int => k_is)
